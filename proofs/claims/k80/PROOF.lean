import PyProof.Rows.All
import Wide.All
import OpenK.AllK
import Wide.FinOn
import KE.KStateDown
import HandS.Base
import HandS.Call
import HandS.Ends
import HandS.More
import HandS.Words
import HandS.WordsExc
import HandS.Defaults
import HandS.Head0
import HandS.Head1
import HandS.Head2
import HandS.HeadEnd
import HandS.HeadHook1
import HandS.HeadHook2
import HandS.ForMost
import HandS.DictComp
import HandS.DictEq
import PyProof.LongRange
import HandS.SortKw
import HandS.TupSets
import KE.DataMinMax
import HandS.SortInts
import HandS.DictTup
import HandS.ListItems
import HandS.Strs
import HandS.SetFor
import HandS.Comp
import HandS.SortRule
import HandS.SetKeys
import HandS.IsInst
import HandS.Codes
import HandS.MakeKwOnly
import HandS.Conv
import HandS.Wide
import HandS.Walk
import PySem.Challenge.RW_retryslots_k80_whole_logs_of_an_outage_i
set_option Elab.async false
set_option linter.all false
set_option maxRecDepth 100000
set_option maxHeartbeats 0
namespace My
open PySem PySem.Spec PyProof.Rows L2
/-- the i-th statement of the top -/
def top (i : Nat) : Stmt := PySem.Challenge.pw_retryslots_k80_whole_logs_of_an_outage_i.main.body.getD i (.Pass ⟨0, 0, 0, 0⟩)
abbrev s_is_integer : Stmt := top 12
abbrev s_is_between : Stmt := top 13
abbrev s_power : Stmt := top 14
abbrev s_check_window : Stmt := top 18
abbrev s_is_entry : Stmt := top 19
abbrev s_check_log : Stmt := top 20
abbrev s_check_starts_logs : Stmt := top 21
abbrev s_slots_in : Stmt := top 23
abbrev s_counts_of : Stmt := top 24
abbrev s_expected_log : Stmt := top 25
abbrev s_Expected_init : Stmt := inClass (top 26) 0
abbrev s_Expected_add : Stmt := inClass (top 26) 1
abbrev s_Expected_next_slot : Stmt := inClass (top 26) 2
abbrev s_Expected_take : Stmt := inClass (top 26) 3
abbrev s_infer_starts : Stmt := top 27
abbrev s_remaining_log : Stmt := top 28
abbrev s_is_tail : Stmt := top 34
abbrev s_Rule_init : Stmt := inClass (top 35) 0
abbrev s_Rule_gaps : Stmt := inClass (top 35) 2
abbrev s_Rule_tail : Stmt := inClass (top 35) 3
abbrev s_Rule_attempts : Stmt := inClass (top 35) 4
abbrev s_Rule_offset_of : Stmt := inClass (top 35) 8
abbrev s_Rule_period : Stmt := inClass (top 35) 9
abbrev s_Rule_first_from : Stmt := inClass (top 35) 11
abbrev s_Rule_attempt_at : Stmt := inClass (top 35) 12
abbrev s_check_starts_scenes : Stmt := top 39
abbrev s_is_window : Stmt := top 41
abbrev s_check_outages : Stmt := top 42
abbrev s_Scene_init : Stmt := inClass (top 43) 0
abbrev s_Scene_rule : Stmt := inClass (top 43) 3
abbrev s_Scene_starts : Stmt := inClass (top 43) 4
abbrev s_Scene_outages : Stmt := inClass (top 43) 5
abbrev s_Scene_length : Stmt := inClass (top 43) 6
abbrev s_Scene_check_client : Stmt := inClass (top 43) 7
abbrev s_Scene_attempt_in : Stmt := inClass (top 43) 9
abbrev s_Scene_outage_at : Stmt := inClass (top 43) 10
abbrev s_Scene_listed_slots : Stmt := inClass (top 43) 11
abbrev s_Scene_moments : Stmt := inClass (top 43) 12
abbrev s_Run_init : Stmt := inClass (top 45) 0
abbrev s_Run_advance : Stmt := inClass (top 45) 1
abbrev s_Run_failing_until : Stmt := inClass (top 45) 2
abbrev s_Run_skip_to : Stmt := inClass (top 45) 3
abbrev s_Run_latest_moment : Stmt := inClass (top 45) 4
abbrev s_Run_is_repeated : Stmt := inClass (top 45) 5
abbrev s_Run_close : Stmt := inClass (top 45) 6
abbrev s_Run_decide : Stmt := inClass (top 45) 7
abbrev s_Run_outcome : Stmt := inClass (top 45) 9
abbrev s_Run_outcomes : Stmt := inClass (top 45) 10
abbrev s_Run_order : Stmt := inClass (top 45) 11
abbrev s_Run_is_active : Stmt := inClass (top 45) 12
abbrev s_Run_active : Stmt := inClass (top 45) 13
abbrev s_Run_attempting : Stmt := inClass (top 45) 14
abbrev s_Run_busy_with : Stmt := inClass (top 45) 15
abbrev s_Run_event : Stmt := inClass (top 45) 16
abbrev s_law_source_of : Stmt := top 47
abbrev s_law_next : Stmt := top 48
abbrev s_law_one : Stmt := top 49
abbrev s_law_cell_at : Stmt := top 50
abbrev s_law : Stmt := top 51
def d_is_integer : He.DefD := ⟨("is_integer", none), "is_integer", "is_integer", defArgs s_is_integer, defBody s_is_integer, defScope s_is_integer, [], []⟩
def d_is_between : He.DefD := ⟨("is_between", none), "is_between", "is_between", defArgs s_is_between, defBody s_is_between, defScope s_is_between, [], []⟩
def d_power : He.DefD := ⟨("power", none), "power", "power", defArgs s_power, defBody s_power, defScope s_power, [], []⟩
def d_check_window : He.DefD := ⟨("check_window", none), "check_window", "check_window", defArgs s_check_window, defBody s_check_window, defScope s_check_window, [], []⟩
def d_is_entry : He.DefD := ⟨("is_entry", none), "is_entry", "is_entry", defArgs s_is_entry, defBody s_is_entry, defScope s_is_entry, [], []⟩
def d_check_log : He.DefD := ⟨("check_log", none), "check_log", "check_log", defArgs s_check_log, defBody s_check_log, defScope s_check_log, [], []⟩
def d_check_starts_logs : He.DefD := ⟨("check_starts_logs", none), "check_starts", "check_starts", defArgs s_check_starts_logs, defBody s_check_starts_logs, defScope s_check_starts_logs, [], []⟩
def d_slots_in : He.DefD := ⟨("slots_in", none), "slots_in", "slots_in", defArgs s_slots_in, defBody s_slots_in, defScope s_slots_in, [], []⟩
def d_counts_of : He.DefD := ⟨("counts_of", none), "counts_of", "counts_of", defArgs s_counts_of, defBody s_counts_of, defScope s_counts_of, [], []⟩
def d_expected_log : He.DefD := ⟨("expected_log", none), "expected_log", "expected_log", defArgs s_expected_log, defBody s_expected_log, defScope s_expected_log, [], []⟩
def d_Expected_init : He.DefD := ⟨("Expected", some "__init__"), "__init__", "Expected.__init__", defArgs s_Expected_init, defBody s_Expected_init, defScope s_Expected_init, [], []⟩
def d_Expected_add : He.DefD := ⟨("Expected", some "add"), "add", "Expected.add", defArgs s_Expected_add, defBody s_Expected_add, defScope s_Expected_add, [], []⟩
def d_Expected_next_slot : He.DefD := ⟨("Expected", some "next_slot"), "next_slot", "Expected.next_slot", defArgs s_Expected_next_slot, defBody s_Expected_next_slot, defScope s_Expected_next_slot, [], []⟩
def d_Expected_take : He.DefD := ⟨("Expected", some "take"), "take", "Expected.take", defArgs s_Expected_take, defBody s_Expected_take, defScope s_Expected_take, [], []⟩
def d_infer_starts : He.DefD := ⟨("infer_starts", none), "infer_starts", "infer_starts", defArgs s_infer_starts, defBody s_infer_starts, defScope s_infer_starts, [], []⟩
def d_remaining_log : He.DefD := ⟨("remaining_log", none), "remaining_log", "remaining_log", defArgs s_remaining_log, defBody s_remaining_log, defScope s_remaining_log, [], []⟩
def d_is_tail : He.DefD := ⟨("is_tail", none), "is_tail", "is_tail", defArgs s_is_tail, defBody s_is_tail, defScope s_is_tail, [], []⟩
def d_Rule_init : He.DefD := ⟨("Rule", some "__init__"), "__init__", "Rule.__init__", defArgs s_Rule_init, defBody s_Rule_init, defScope s_Rule_init, [], []⟩
def d_Rule_gaps : He.DefD := ⟨("Rule", some "gaps"), "gaps", "Rule.gaps", defArgs s_Rule_gaps, defBody s_Rule_gaps, defScope s_Rule_gaps, [], []⟩
def d_Rule_tail : He.DefD := ⟨("Rule", some "tail"), "tail", "Rule.tail", defArgs s_Rule_tail, defBody s_Rule_tail, defScope s_Rule_tail, [], []⟩
def d_Rule_attempts : He.DefD := ⟨("Rule", some "attempts"), "attempts", "Rule.attempts", defArgs s_Rule_attempts, defBody s_Rule_attempts, defScope s_Rule_attempts, [], []⟩
def d_Rule_offset_of : He.DefD := ⟨("Rule", some "offset_of"), "offset_of", "Rule.offset_of", defArgs s_Rule_offset_of, defBody s_Rule_offset_of, defScope s_Rule_offset_of, [], []⟩
def d_Rule_period : He.DefD := ⟨("Rule", some "period"), "period", "Rule.period", defArgs s_Rule_period, defBody s_Rule_period, defScope s_Rule_period, [], []⟩
def d_Rule_first_from : He.DefD := ⟨("Rule", some "first_from"), "first_from", "Rule.first_from", defArgs s_Rule_first_from, defBody s_Rule_first_from, defScope s_Rule_first_from, [], []⟩
def d_Rule_attempt_at : He.DefD := ⟨("Rule", some "attempt_at"), "attempt_at", "Rule.attempt_at", defArgs s_Rule_attempt_at, defBody s_Rule_attempt_at, defScope s_Rule_attempt_at, [], []⟩
def d_check_starts_scenes : He.DefD := ⟨("check_starts_scenes", none), "check_starts", "check_starts", defArgs s_check_starts_scenes, defBody s_check_starts_scenes, defScope s_check_starts_scenes, [], []⟩
def d_is_window : He.DefD := ⟨("is_window", none), "is_window", "is_window", defArgs s_is_window, defBody s_is_window, defScope s_is_window, [], []⟩
def d_check_outages : He.DefD := ⟨("check_outages", none), "check_outages", "check_outages", defArgs s_check_outages, defBody s_check_outages, defScope s_check_outages, [], []⟩
def d_Scene_init : He.DefD := ⟨("Scene", some "__init__"), "__init__", "Scene.__init__", defArgs s_Scene_init, defBody s_Scene_init, defScope s_Scene_init, [], [("outages", .non), ("length", .int 1)]⟩
def d_Scene_rule : He.DefD := ⟨("Scene", some "rule"), "rule", "Scene.rule", defArgs s_Scene_rule, defBody s_Scene_rule, defScope s_Scene_rule, [], []⟩
def d_Scene_starts : He.DefD := ⟨("Scene", some "starts"), "starts", "Scene.starts", defArgs s_Scene_starts, defBody s_Scene_starts, defScope s_Scene_starts, [], []⟩
def d_Scene_outages : He.DefD := ⟨("Scene", some "outages"), "outages", "Scene.outages", defArgs s_Scene_outages, defBody s_Scene_outages, defScope s_Scene_outages, [], []⟩
def d_Scene_length : He.DefD := ⟨("Scene", some "length"), "length", "Scene.length", defArgs s_Scene_length, defBody s_Scene_length, defScope s_Scene_length, [], []⟩
def d_Scene_check_client : He.DefD := ⟨("Scene", some "check_client"), "check_client", "Scene.check_client", defArgs s_Scene_check_client, defBody s_Scene_check_client, defScope s_Scene_check_client, [], []⟩
def d_Scene_attempt_in : He.DefD := ⟨("Scene", some "attempt_in"), "attempt_in", "Scene.attempt_in", defArgs s_Scene_attempt_in, defBody s_Scene_attempt_in, defScope s_Scene_attempt_in, [], []⟩
def d_Scene_outage_at : He.DefD := ⟨("Scene", some "outage_at"), "outage_at", "Scene.outage_at", defArgs s_Scene_outage_at, defBody s_Scene_outage_at, defScope s_Scene_outage_at, [], []⟩
def d_Scene_listed_slots : He.DefD := ⟨("Scene", some "listed_slots"), "listed_slots", "Scene.listed_slots", defArgs s_Scene_listed_slots, defBody s_Scene_listed_slots, defScope s_Scene_listed_slots, [], []⟩
def d_Scene_moments : He.DefD := ⟨("Scene", some "moments"), "moments", "Scene.moments", defArgs s_Scene_moments, defBody s_Scene_moments, defScope s_Scene_moments, [], []⟩
def d_Run_init : He.DefD := ⟨("Run", some "__init__"), "__init__", "Run.__init__", defArgs s_Run_init, defBody s_Run_init, defScope s_Run_init, [], []⟩
def d_Run_advance : He.DefD := ⟨("Run", some "advance"), "advance", "Run.advance", defArgs s_Run_advance, defBody s_Run_advance, defScope s_Run_advance, [], []⟩
def d_Run_failing_until : He.DefD := ⟨("Run", some "failing_until"), "failing_until", "Run.failing_until", defArgs s_Run_failing_until, defBody s_Run_failing_until, defScope s_Run_failing_until, [], []⟩
def d_Run_skip_to : He.DefD := ⟨("Run", some "skip_to"), "skip_to", "Run.skip_to", defArgs s_Run_skip_to, defBody s_Run_skip_to, defScope s_Run_skip_to, [], []⟩
def d_Run_latest_moment : He.DefD := ⟨("Run", some "latest_moment"), "latest_moment", "Run.latest_moment", defArgs s_Run_latest_moment, defBody s_Run_latest_moment, defScope s_Run_latest_moment, [], []⟩
def d_Run_is_repeated : He.DefD := ⟨("Run", some "is_repeated"), "is_repeated", "Run.is_repeated", defArgs s_Run_is_repeated, defBody s_Run_is_repeated, defScope s_Run_is_repeated, [], []⟩
def d_Run_close : He.DefD := ⟨("Run", some "close"), "close", "Run.close", defArgs s_Run_close, defBody s_Run_close, defScope s_Run_close, [], []⟩
def d_Run_decide : He.DefD := ⟨("Run", some "decide"), "decide", "Run.decide", defArgs s_Run_decide, defBody s_Run_decide, defScope s_Run_decide, [], []⟩
def d_Run_outcome : He.DefD := ⟨("Run", some "outcome"), "outcome", "Run.outcome", defArgs s_Run_outcome, defBody s_Run_outcome, defScope s_Run_outcome, [], []⟩
def d_Run_outcomes : He.DefD := ⟨("Run", some "outcomes"), "outcomes", "Run.outcomes", defArgs s_Run_outcomes, defBody s_Run_outcomes, defScope s_Run_outcomes, [], []⟩
def d_Run_order : He.DefD := ⟨("Run", some "order"), "order", "Run.order", defArgs s_Run_order, defBody s_Run_order, defScope s_Run_order, [], []⟩
def d_Run_is_active : He.DefD := ⟨("Run", some "is_active"), "is_active", "Run.is_active", defArgs s_Run_is_active, defBody s_Run_is_active, defScope s_Run_is_active, [], []⟩
def d_Run_active : He.DefD := ⟨("Run", some "active"), "active", "Run.active", defArgs s_Run_active, defBody s_Run_active, defScope s_Run_active, [], []⟩
def d_Run_attempting : He.DefD := ⟨("Run", some "attempting"), "attempting", "Run.attempting", defArgs s_Run_attempting, defBody s_Run_attempting, defScope s_Run_attempting, [], []⟩
def d_Run_busy_with : He.DefD := ⟨("Run", some "busy_with"), "busy_with", "Run.busy_with", defArgs s_Run_busy_with, defBody s_Run_busy_with, defScope s_Run_busy_with, [], []⟩
def d_Run_event : He.DefD := ⟨("Run", some "event"), "event", "Run.event", defArgs s_Run_event, defBody s_Run_event, defScope s_Run_event, [], []⟩
def d_law_source_of : He.DefD := ⟨("_law_source_of", none), "_law_source_of", "_law_source_of", defArgs s_law_source_of, defBody s_law_source_of, defScope s_law_source_of, [], []⟩
def d_law_next : He.DefD := ⟨("_law_next", none), "_law_next", "_law_next", defArgs s_law_next, defBody s_law_next, defScope s_law_next, [], []⟩
def d_law_one : He.DefD := ⟨("_law_one", none), "_law_one", "_law_one", defArgs s_law_one, defBody s_law_one, defScope s_law_one, [], []⟩
def d_law_cell_at : He.DefD := ⟨("_law_cell_at", none), "_law_cell_at", "_law_cell_at", defArgs s_law_cell_at, defBody s_law_cell_at, defScope s_law_cell_at, [], []⟩
def d_law : He.DefD := ⟨("law", none), "law", "law", defArgs s_law, defBody s_law, defScope s_law, [], []⟩
def fa0 : List He.Fa := [.glo "is_integer", .glo "is_between", .glo "power", .glo "check_window", .glo "is_entry", .glo "check_log", .glo "check_starts_logs", .glo "slots_in", .glo "counts_of", .glo "expected_log", .glo "infer_starts", .glo "remaining_log", .glo "is_tail", .glo "check_starts_scenes", .glo "is_window", .glo "check_outages", .glo "_law_source_of", .glo "_law_next", .glo "_law_one", .glo "_law_cell_at", .glo "law", .glo "Expected", .cls "Expected", .mkr "Expected", .noat "Expected" "schedule", .noat "Expected" "window", .noat "Expected" "waiting", .meth "Expected" "add", .meth "Expected" "next_slot", .meth "Expected" "take"]
def fa1 : List He.Fa := [.glo "Rule", .cls "Rule", .mkr "Rule", .noat "Rule" "listed", .noat "Rule" "ending", .noat "Rule" "sums", .meth "Rule" "gaps", .meth "Rule" "tail", .meth "Rule" "attempts", .meth "Rule" "offset_of", .meth "Rule" "period", .meth "Rule" "first_from", .meth "Rule" "attempt_at", .glo "Scene", .cls "Scene", .mkr "Scene", .noat "Scene" "its_rule", .noat "Scene" "its_starts", .noat "Scene" "windows", .noat "Scene" "its_length", .meth "Scene" "rule", .meth "Scene" "starts", .meth "Scene" "outages", .meth "Scene" "length", .meth "Scene" "check_client", .meth "Scene" "attempt_in", .meth "Scene" "outage_at", .meth "Scene" "listed_slots", .meth "Scene" "moments", .glo "Run"]
def fa2 : List He.Fa := [.cls "Run", .mkr "Run", .noat "Run" "its_scene", .noat "Run" "pattern", .noat "Run" "begins", .noat "Run" "changes", .noat "Run" "services", .noat "Run" "closed", .noat "Run" "waiting", .noat "Run" "free_from", .meth "Run" "advance", .meth "Run" "failing_until", .meth "Run" "skip_to", .meth "Run" "latest_moment", .meth "Run" "is_repeated", .meth "Run" "close", .meth "Run" "decide", .meth "Run" "outcome", .meth "Run" "outcomes", .meth "Run" "order", .meth "Run" "is_active", .meth "Run" "active", .meth "Run" "attempting", .meth "Run" "busy_with", .meth "Run" "event", .int "MOST_ENTRIES" 500, .int "MOST_STARTS" 40, .int "MOST_GAPS" 20, .int "MOST_GAP" 1000000000000, .int "MOST_FACTOR" 1000]
def fa3 : List He.Fa := [.int "MOST_CLIENTS" 40, .int "MOST_OUTAGES" 10, .free "isinstance", .free "int", .free "bool", .free "tuple", .free "list", .free "str", .free "len", .free "all", .free "enumerate", .free "range", .free "sorted", .free "min", .free "max", .free "sum", .free "dict", .free "set"]
def fa : List He.Fa := fa0 ++ fa1 ++ fa2 ++ fa3
def fn0 : List He.DefD := [d_is_integer, d_is_between, d_power, d_check_window, d_is_entry, d_check_log, d_check_starts_logs, d_slots_in, d_counts_of, d_expected_log, d_Expected_init, d_Expected_add, d_Expected_next_slot, d_Expected_take, d_infer_starts, d_remaining_log, d_is_tail, d_Rule_init, d_Rule_gaps, d_Rule_tail, d_Rule_attempts, d_Rule_offset_of, d_Rule_period, d_Rule_first_from, d_Rule_attempt_at, d_check_starts_scenes, d_is_window, d_check_outages, d_Scene_init, d_Scene_rule]
def fn1 : List He.DefD := [d_Scene_starts, d_Scene_outages, d_Scene_length, d_Scene_check_client, d_Scene_attempt_in, d_Scene_outage_at, d_Scene_listed_slots, d_Scene_moments, d_Run_init, d_Run_advance, d_Run_failing_until, d_Run_skip_to, d_Run_latest_moment, d_Run_is_repeated, d_Run_close, d_Run_decide, d_Run_outcome, d_Run_outcomes, d_Run_order, d_Run_is_active, d_Run_active, d_Run_attempting, d_Run_busy_with, d_Run_event, d_law_source_of, d_law_next, d_law_one, d_law_cell_at, d_law]
def fn : List He.DefD := fn0 ++ fn1
def nms0 : List Str := ["_wall", "RetryError", "InvalidRule", "InvalidAttempt", "InvalidSlot", "InvalidScene", "InvalidClient", "InvalidLog", "InvalidBound", "LimitExceeded", "is_integer", "is_between", "power", "MOST_ENTRIES", "MOST_STARTS", "check_window", "is_entry", "check_log", "check_starts", "check_starts_logs", "slots_in", "counts_of"]
def nms1 : List Str := ["expected_log", "Expected", "infer_starts", "remaining_log", "MOST_GAPS", "MOST_GAP", "MOST_FACTOR", "MOST_ATTEMPT", "is_tail", "Rule", "MOST_CLIENTS", "MOST_OUTAGES", "check_starts_scenes", "is_window", "check_outages", "Scene", "Run", "_law_source_of", "_law_next", "_law_one", "_law_cell_at"]
def nms : List Str := nms0 ++ nms1
/-! what isinstance asks of two classes; the Hook: the facts, the defs and that -/
def inB (K : PySem.W.Frag) (x : Str) : Bool := He.eqO (PySem.W.findIn K (.ref (He.ga K x)) "__class__") (some (some (.builtin "object.__class__"))) && (He.eqO (PySem.W.specialIn K (.builtin "object.__class__") "__get__") (some (some (.builtin "getset_descriptor.__get__"))) &&
  (decide (PySem.W.takesIn K (.builtin "object.__class__") = some true) && decide (PySem.W.mroIn K (He.ga K x) (.type "object") = some true)))
def exB (K : PySem.W.Frag) : Bool := inB K "Rule" && inB K "Scene"
abbrev AlM : Type := He.AlD × Bool
def hookM (n : Nat) (fa : List He.Fa) (fn : List He.DefD) : PySem.W.Hook where
  α := AlM
  obs := fun s => (He.obsDG n fa fn s.heap.get?, exB (He.frG s.heap.get? (He.asD s.heap.get? n)))
  val := fun _ => (He.valD fn, true)
  says := fun _ h => ∃ K : PySem.W.Frag, K.In h ∧ He.SaysD fa fn K ∧ exB K = true
  of := fun _ _ e => ⟨_, He.frG_in, congrArg Prod.fst e, congrArg Prod.snd e⟩
  keeps := fun _ _ _ ⟨K, hK, c⟩ k => ⟨K, PySem.W.Frag.In.keeps hK k, c⟩
abbrev R : PySem.W.OpenRow := PySem.W.OpenLaw.row PySem.Challenge.rw_retryslots_k80_whole_logs_of_an_outage_i
abbrev hk : PySem.W.Hook := hookM 5 fa fn
def ob (s : PySem.W.SharedT) : AlM := (He.obsDG 5 fa fn (HandSHeadRun.getT s), exB (He.frG (HandSHeadRun.getT s) (He.asD (HandSHeadRun.getT s) 5)))
theorem ob_eq (s : PySem.W.SharedT) : ob s = hk.obs s.abs := by
  have e : HandSHeadRun.getT s = s.abs.heap.get? := funext (HandSHeadRun.getT_eq s)
  unfold ob
  rw [e] <;> rfl
theorem run (w : World) : HandSHeadRun.RunEq R (PySem.W.view R.prog [51]) hk ob 6000 nms w := by
  intro os
  kernel_rfl
end My
set_option Elab.async false
set_option maxRecDepth 100000
set_option maxHeartbeats 4000000
namespace My
open PySem PySem.Spec PyProof.Rows L2
theorem turn_long {P : Program} {w : World} {K : PySem.W.Frag} {tg : Expr} (it : Addr) (lo : Int) (n : Nat) : Turn P w K tg (Itr lo n) [it] it (fun i h => IsLongIter h it (lo + (i : Nat) * 1) ((n : Int) - (i : Nat)) 1) where
  mem := by simp
  obj := fun i h st b hb => by
    have e : b = it := by simpa using hb
    subst e
    exact ⟨_, st, fun v z => by
      have z' : Data.fields _ = Data.cell v := z
      cases z'⟩
  keep := fun i h h' st k => k it (by simp) _ st
  item := by
    intro X hP hw hK hc i pins s σ H E I hf st hg
    subst hP hw hK
    obtain ⟨f0, f1, f2, f3, f4, f5⟩ := hf it (by simp)
    have W := Walks.longrange (prog := X.prog) (w := X.w) (I.ok.hd hc) it lo 1 n
    refine W.item i s _ _ hg st fun v h' tk hv st' kk => ?_
    obtain ⟨t, rfl⟩ := hv
    have I1 : Inv X pins σ H { s with heap := h', toks := tk } := I.turned (fun b o hb e => kk b o (by simpa using hb) e) f0 f1 f3 f4 f5
    refine ⟨_, rfl, go_of (s := { s with heap := h', toks := tk }) (n := "longrange_iterator") st' rfl rfl (by decide) ⟨.int (lo + i), H, I1, ⟨t, ?_⟩, ⟨rfl, rfl⟩, st', fun b hb => (hf b hb).1⟩⟩
    rw [Int.mul_one]
  done := by
    intro X hP hw hK hc i pins s σ H E I hf st hg
    subst hP hw hK
    obtain ⟨f0, f1, f2, f3, f4, f5⟩ := hf it (by simp)
    exact wpAny_pyNext_long_end (I.ok.hd hc) st (by have : n ≤ i := hg; omega) fun h' eb => ⟨rfl, I.turned (t' := s.toks) (fun b o hb e => eb b o hb e) f0 f1 f3 f4 f5⟩
  self := fun _ _ _ _ _ st h => wpAny_pyIter_longiter st h
theorem range_itA {X : Cx} {tg : Expr} {pins : List (Addr × Obj)} {σ : L2.St} {H : Hp} {s : Shared} {R : It → Hp → Prop} {E : Value → Shared → Prop} {lo hi : Int} {t u v : Tok} {tk : Nat} (I : Inv X pins σ H s)
    (q : R (Itr lo (hi - lo).toNat) H) : wpAny (model X.prog X.w) X.A (pyIter (.ref s.heap.objs.size)) (PIE X pins σ tg R) E { s with heap := s.heap.push { cls := .type "range", data := .fields #[.int lo t, .int hi u, .int 1 v] }, toks := tk } := by
  have I1 : Inv X pins σ H { s with heap := s.heap.push { cls := .type "range", data := .fields #[.int lo t, .int hi u, .int 1 v] }, toks := tk } := I.kept fun b o e => Heap.get?_push_of_some _ e
  have e1 : lo + ((0 : Nat) : Int) * 1 = lo := by simp
  have e2 : (((hi - lo).toNat : Nat) : Int) - ((0 : Nat) : Int) = Builtin.Range.rangeSize lo hi 1 := by rw [rangeSize_one]; split <;> omega
  have fin : ∀ (o : Obj) (tn : Nat → Heap → Prop), (Turn X.prog X.w X.K tg (Itr lo (hi - lo).toNat) [(s.heap.push { cls := .type "range", data := .fields #[.int lo t, .int hi u, .int 1 v] }).objs.size] (s.heap.push { cls := .type "range", data := .fields #[.int lo t, .int hi u, .int 1 v] }).objs.size tn) →
      tn 0 ((s.heap.push { cls := .type "range", data := .fields #[.int lo t, .int hi u, .int 1 v] }).push o) → PIE X pins σ tg R (.ref (s.heap.push { cls := .type "range", data := .fields #[.int lo t, .int hi u, .int 1 v] }).objs.size) { s with heap := (s.heap.push { cls := .type "range", data := .fields #[.int lo t, .int hi u, .int 1 v] }).push o, toks := tk } := fun o tn T st => by
    refine ⟨_, _, _, _, H, rfl, I1.kept (t' := tk) fun b o e => Heap.get?_push_of_some _ e, T, st, fun b hb => ?_, q⟩
    have e : b = (s.heap.push { cls := .type "range", data := .fields #[.int lo t, .int hi u, .int 1 v] }).objs.size := by simpa using hb
    subst e
    exact I1.fpOk (Nat.le_refl _) (I1.hok.fresh (Nat.le_refl _))
  cases hs : Builtin.Range.small lo hi 1 with
  | true =>
    refine wpAny_pyIter_range (IsRange.new ..) hs ?_
    refine fin _ _ (turn_range _ lo (hi - lo).toNat) ?_
    show IsRangeIter _ _ (lo + ((0 : Nat) : Int) * 1) ((((hi - lo).toNat : Nat) : Int) - ((0 : Nat) : Int)) 1
    rw [e1, e2]
    exact Heap.get?_push_size _ rfl
  | false =>
    refine wpAny_pyIter_longrange (IsRange.new ..) hs ?_
    refine fin _ _ (turn_long _ lo (hi - lo).toNat) ?_
    show IsLongIter _ _ (lo + ((0 : Nat) : Int) * 1) ((((hi - lo).toNat : Nat) : Int) - ((0 : Nat) : Int)) 1
    rw [e1, e2]
    exact Heap.get?_push_size _ rfl
def iRng2A (ta : TA) : TI := fun σ H R => ta σ H fun vs H1 => ∃ i j : Int, vs = [.int i, .int j] ∧ R (Itr i (j - i).toNat) H1
theorem pi_range2A {X : Cx} {tg : Expr} {a b : Expr} {ta : TA} {p pos : Pos} (hg : Gl X "range") (hm : X.mg "range" = none) (ha : PA X [a, b] ta) (hs : starEach [a, b] X.env = [(false, eval a X.env), (false, eval b X.env)] := by rfl) (hs2 : starEach [b] X.env = [(false, eval b X.env)] := by rfl) :
    PI X tg (.Call (.Name "range" p) [a, b] [] pos) (iRng2A ta) := by
  refine ⟨fun pins s σ H R I h => ?_⟩
  refine Call_ (ld_blt I hg hm boot_range (PyProof.Rows.callWith_type1 (thn (ha.run pos pins s σ H _ I h) fun us s1 ⟨vs, H1, I1, r1, q1⟩ => ?_) (by rw [hs, hs2]) (by rw [hs2]; rfl)))
  obtain ⟨i, j, e, q⟩ := q1
  subst e
  cases r1 with
  | cons r rr =>
    cases rr with
    | cons r' rr =>
      cases rr
      obtain ⟨t, rfl⟩ := r
      obtain ⟨t', rfl⟩ := r'
      exact call_range_2 (range_itA I1 q)
theorem ext_tup (l : Addr) (items : Array Value) (n : Nat) (b : Addr) (items2 : Array Value) (n2 : Nat) (d : Option Addr) (sl : Array (Option Value)) (hs0 : ¬(!items.isEmpty && Builtin.List.listTooLong (items.size + items2.size)) = true) (hs1 : items.size ≤ sizeLine) (hs2 : items.size + items2.size ≤ sizeLine + 1) :
    Meets (Builtin.«list.extend» ⟨[.ref l, .ref b], []⟩) (fun _ R s => s.heap.get? l = some { cls := .type "list", dict := none, data := .seq items n, slots := #[] } ∧ s.heap.get? b = some { cls := .type "tuple", dict := d, data := .seq items2 n2, slots := sl } ∧ R (.ok (.ret Value.none)) { s with heap := s.heap.update l (Obj.mapSeq fun x => x ++ items2), toks := s.toks }) :=
  .of_wp fun prog w A R s h => by
    obtain ⟨hp, g, d, tk, os⟩ := s; obtain ⟨hl, hb, h⟩ := h; have f1 := AutoSeq1.idx_int; have f2 := AutoSeq1.sub_tuple_tuple; have f3 := AutoSeq1.sub_list_list; have f4 := AutoSeq1.sub_tuple_list; have f5 := AutoSeq1.sub_list_tuple;
    have hz' : (items ++ items2).size ≤ sizeLine + 1 := by rw [Array.size_append]; exact hs2
    wp_walk using (wpAny_updateSeq hl rfl (hz := hs1) (_hz' := hz')), AutoSeq1.wpAny_loadPart' hl, AutoSeq1.wpAny_loadPart' hb; exact ⟨_, rfl, h⟩
section
variable {X : Cx}
/-- d != {} -/
def rNe0 : R2 := fun x y H Q => ∃ a b ks, x = .ref a ∧ y = .ref b ∧ H a = some (.dK ks) ∧ H b = some (.dK []) ∧ Q (.bl (!ks.isEmpty)) H
theorem op_ne0 (hu : X.A.units < cLine) : OpR X (compareOp .NotEq) rNe0 := by
  intro pins s σ H x y v u Q I rx ry h
  obtain ⟨a, b, ks, rfl, rfl, ea, eb, q⟩ := h
  obtain rfl : v = Value.ref a := rx
  obtain rfl : u = Value.ref b := ry
  obtain ⟨_, ya, va, ra, da⟩ := (show ObjOk X.prog X.w H s.heap a (.dK ks) from I.hok a _ ea)
  obtain ⟨_, yb, vb, rb, db⟩ := (show ObjOk X.prog X.w H s.heap b (.dK []) from I.hok b _ eb)
  have hb : vb = [] := List.length_eq_zero_iff.mp (by rw [← rb.length]; rfl)
  subst hb
  have la := ra.length
  refine PySem.W.keq_ne (knd := mixKind X.prog X.w) (r := true) ya yb da db hu (fun h0 => ?_) (fin_bl I q ?_)
  · obtain rfl : va = [] := List.length_eq_zero_iff.mp h0
    exact .nil
  · cases ks with
    | nil =>
      cases va with
      | nil => rfl
      | cons => simp at la
    | cons =>
      cases va with
      | nil => simp at la
      | cons => rfl
/-- xs.extend(t), t a tuple -/
def rExtT (K : PySem.W.Frag) : V → List V → Hp → VK → Prop := fun x vs H Q => ∃ l b xs zs, x = .ref l ∧ vs = [.ref b] ∧ H l = some (.lst xs) ∧ SqT K H b zs ∧ xs.length + zs.length ≤ sizeLine ∧ Q .non (upd H l (.lst (xs ++ zs)))
theorem mt_extT : MtR X "list.extend" (rExtT X.K) := by
  intro pins s σ H x vs v us Q I rx rv h
  obtain ⟨l, b, xs, zs, rfl, rfl, hH, hB, hz, q⟩ := h
  cases rx
  obtain ⟨u, rfl, ru⟩ := rv.one
  cases ru
  obtain ⟨z, its, n, r, hl, e⟩ := I.lstM hH
  obtain ⟨its2, r2, ⟨ob, e2, hc, n2, hd⟩, hz2⟩ := I.tuple hB
  obtain ⟨oc, od, dt, sl⟩ := ob
  cases hc
  cases hd
  have l2 := r2.length
  have hsz : its.toArray.size + its2.toArray.size ≤ sizeLine := by rw [List.size_toArray, List.size_toArray]; omega
  have hlong : ¬ (!its.toArray.isEmpty && Builtin.List.listTooLong (its.toArray.size + its2.toArray.size)) = true := by
    rw [notLongL hsz, Bool.and_false]
    exact Bool.false_ne_true
  refine call_meets F.slot_list_extend ⟨_, e, rfl⟩ F.entry_list_extend (F.args_list_extend_2 _ _)
    (ext_tup l its.toArray n b its2.toArray n2 od sl hlong (by rw [List.size_toArray]; omega) (by omega)) ⟨e, e2, ?_⟩
  refine ⟨.non, _, I.lset (its' := its ++ its2) hH e (by simp) (r.append r2) ?_, rfl, q⟩
  rw [List.length_append]
  omega
end
end My
set_option Elab.async false
set_option maxRecDepth 100000
set_option maxHeartbeats 4000000
namespace My
open PySem PySem.Spec PyProof.Rows L2
section
variable {X : Cx}
/-- min(d, default=z), d a dict with int keys -/
def rMinD : List V → List V → Hp → VK → Prop := fun vs zs H Q => ∃ (a : Addr) (kvs : List (Key × V)) (is : List Int) (z : V), vs = [V.ref a] ∧ zs = [z] ∧ H a = some (.dK kvs) ∧ kvs.map (·.1) = is.map Sum.inl ∧ (is = [] → Q z H) ∧ (is ≠ [] → ∀ m, m ∈ is → (∀ j ∈ is, m ≤ j) → Q (.int m) H)
theorem cr_minD (hc : X.calm = true) : CallRK X (.builtin "min") [Str.ofString "default"] rMinD := by
  intro pins s σ H vs zs us ws Q I r rz h
  obtain ⟨a, kvs, is, z, rfl, rfl, ha, hv, q0, q⟩ := h
  rw [Vals.ref1 r]
  obtain ⟨w1, rfl, e1⟩ := vals1 rz
  obtain ⟨_, hsys, vs, rel, dof⟩ := dk_of I.hok ha
  obtain ⟨ep, dat⟩ := dof.dictAt
  obtain ⟨ob, es, ho, hex, hdat, hko, hpr, hnd⟩ := id dat
  have hlt : a < s.heap.objs.size := Heap.lt_size ho
  have hkeys : vs.map (·.1) = is.map Sum.inl := (KV.keys rel).symm.trans hv
  have hlv : vs.length = is.length := by
    have e1 := congrArg List.length hkeys
    rw [List.length_map, List.length_map] at e1
    exact e1
  have hval : ∀ (i : Nat) (v : Value), (∃ k x, vs[i]? = some (k, x) ∧ (mixKind X.prog X.w).is k v = true) → ∃ t, v = Value.int (is.getD i 0) t := fun i v ⟨k, x, hk, hkey⟩ => by
    have e1 : (vs.map (·.1))[i]? = some k := by rw [List.getElem?_map, hk] <;> rfl
    rw [hkeys, List.getElem?_map] at e1
    obtain ⟨j, hj, e2⟩ := Option.map_eq_some_iff.mp e1
    subst e2
    have hi : Value.isInt j v = true := hkey
    obtain ⟨t, e3⟩ := Value.isInt_shape (k := j) (v := v) hi
    refine ⟨t, ?_⟩
    rw [e3, List.getD_eq_getElem?_getD, hj] <;> rfl
  have kept : ∀ (o : Obj) (s' : Shared), Moved [s.heap.objs.size] (fun a b => b = a) { s with heap := s.heap.push o } s' → Inv X pins σ H s' := fun o s' hm => by
    obtain ⟨h1, h2, h3, h4, h5⟩ := hm
    obtain ⟨hp, g, d, tk, os⟩ := s'
    dsimp only at h1 h2 h3 h4 h5
    subst h2 h3 h4
    refine I.kept (t' := tk) fun b u e => h1 b u (fun hmem => ?_) (Heap.get?_push_of_some _ e)
    have e1 : b = s.heap.objs.size := List.mem_singleton.mp hmem
    have e2 := Heap.lt_size e
    rw [e1] at e2
    exact absurd e2 (Nat.lt_irrefl _)
  refine PySem.call_min_walkD (wpAny_pyIter_dict (knd := mixKind X.prog X.w) hsys dat ?_)
  refine ⟨_, _, _, _, vs.length, _, _, s.heap, fun i j => decide (is.getD i 0 < is.getD j 0), rfl, (Walks.dictKeys (knd := mixKind X.prog X.w) (A := X.A.in1) (I.ok.hd hc) s.heap.objs.size a (Nat.ne_of_lt hlt) vs ep).toS,
    ⟨⟨_, Heap.get?_push_size _ rfl, rfl, rfl⟩, dat.keep fun b u e => Heap.get?_push_of_some _ e⟩, fun b hb => ?_, fun b o e hb => ?_, fun b o e => Heap.get?_push_of_some _ e, fun h0 s' hm => ?_, fun h0 => ⟨?_, fun v s' hP hm => ?_⟩⟩
  · show b < (s.heap.push _).objs.size
    rw [Heap.size_push]
    rcases List.mem_cons.mp hb with e | hb
    · rw [e]
      exact Nat.lt_succ_self _
    · rw [List.mem_singleton.mp hb]
      exact Nat.lt_succ_of_lt hlt
  · have e1 : b = s.heap.objs.size := List.mem_singleton.mp hb
    have e2 := Heap.lt_size e
    rw [e1] at e2
    exact absurd e2 (Nat.lt_irrefl _)
  · exact ⟨z, H, kept _ s' hm, e1, q0 (List.length_eq_zero_iff.mp (by omega))⟩
  · intro i j vi vj s' Q' E' _ hi hj hq
    exact CmpOf.ints_lt (fun i => is.getD i 0) hval i j vi vj s' Q' E' hi hj hq
  · obtain ⟨t, rfl⟩ := hval _ v hP
    obtain ⟨b1, b2⟩ := argBest_lt (fun i => is.getD i 0) (vs.length - 1)
    refine ⟨.int _, H, kept _ s' hm, ⟨t, rfl⟩, q (fun h => by rw [h] at hlv; rw [hlv] at h0; exact absurd h0 (Nat.lt_irrefl 0)) _ ?_ fun j hj => ?_⟩
    · have hb : argBest (fun i j => decide (is.getD i 0 < is.getD j 0)) (vs.length - 1) < is.length := by omega
      rw [List.getD_eq_getElem?_getD, List.getElem?_eq_getElem hb]
      exact List.getElem_mem hb
    · obtain ⟨i, hi, e⟩ := List.mem_iff_getElem.mp hj
      have e2 : is.getD i 0 = j := by rw [List.getD_eq_getElem?_getD, List.getElem?_eq_getElem hi, ← e] <;> rfl
      rw [← e2]
      exact b2 i (by omega)
end
end My
set_option Elab.async false
set_option maxRecDepth 100000
set_option maxHeartbeats 4000000
namespace My
open PySem PySem.Spec PyProof.Rows L2
section
variable {X : Cx}
/-- xs.sort() of pairs of ints, under any around -/
theorem sortPairs_run {A : Around} {E : Value → Shared → Prop} {R : Value → Shared → Prop} {pins : List (Addr × Obj)} {s : Shared} {σ : L2.St} {H : Hp} {a : Addr} {ys : List V} {k : V → Int × Int} (I : Inv X pins σ H s) (ha : H a = some (.lst ys))
    (hx : ∀ y ∈ ys, ∃ t, y = V.ref t ∧ H t = some (.tup [.int (k y).1, .int (k y).2]))
    (q : ∀ zs s', SrtO.Srtd (ltP k) zs → SrtO.Stb (ltP k) zs ys → Inv X pins σ (upd H a (.lst zs)) s' → R .none s') : wpAny (model X.prog X.w) A (call (.builtin "list.sort") [.ref a]) R E s := by
  obtain ⟨hz, its, n, rv, hob⟩ := I.hok a _ ha
  obtain ⟨e1, e2⟩ := refs_back rv fun x m => by
    obtain ⟨t, e, _⟩ := hx x m
    exact ⟨t, e⟩
  have hp : ∀ v ∈ its, Srt.IsPair s.heap v (k (backV v)).1 (k (backV v)).2 := fun v hv => by
    obtain ⟨t, rfl⟩ := e2 v hv
    have hm : V.ref t ∈ ys := by rw [e1]; exact List.mem_map.mpr ⟨_, hv, rfl⟩
    obtain ⟨t', e, ht⟩ := hx _ hm
    cases e
    obtain ⟨_, its2, r2, o, ho, hc, n, hd⟩ := I.hok _ _ ht
    obtain ⟨u1, u2, rfl, ri, rj⟩ := vals2 r2
    obtain ⟨t1, rfl⟩ := ri
    obtain ⟨t2, rfl⟩ := rj
    exact ⟨t, o, t1, t2, n, rfl, ho, hc, hd⟩
  refine wpAny_call_entry PyProof.Rows.slot_list_sort ⟨_, hob, rfl⟩ PyProof.Rows.entry_list_sort
    (SrtO.list_sort_ord (SrtO.swo_lex fun u => k (backV u)) hob (by rw [← rv.length]; exact hz) (fun h2 => SrtO.pairs_sortableO (by omega) hp fun o e => ?_) fun out h1 h2 => ⟨.none, rfl, ?_⟩) (PyProof.Rows.args_list_sort _)
  · have e' : some o = some (seqObj "list" its.toArray n) := e.symm.trans hob
    cases e'
    intro c
    exact absurd (Value.type.inj c) (by decide)
  · have h3 : ∀ u ∈ out, ∃ a, u = Value.ref a := fun u hu => e2 u (h2.perm.mem_iff.mp hu)
    obtain ⟨ep, he'⟩ := PyProof.Rows.sortedHeap_at (vs := its) (out := out.toArray) hob
    have hb : SrtO.Stb (ltP k) (out.map backV) ys := by
      rw [e1]
      exact SrtO.Stb.map (ltP_swo k) backV h2
    have hlen : (out.map backV).length ≤ sizeLine := by
      rw [hb.len]
      exact hz
    refine q (out.map backV) _ (SrtO.srtd_map h1) hb (I.write (e := a) (t' := s.toks) (by rw [ha]; trivial) (.inl rfl) (fun b u hb hu => ?_) ⟨_, he'⟩ ⟨hlen, out, ep, vals_back h3, he'⟩)
    rw [PyProof.Rows.sortedHeap_old hb (Heap.lt_size hu)]; exact hu
/-- d.items() as a value -/
def rItemsK : V → List V → Hp → VK → Prop := fun x xs H Q => ∃ (a : Addr) (kvs : List (Key × V)), x = .ref a ∧ xs = [] ∧ H a = some (.dK kvs) ∧ ∀ p, H p = none → Q (.ref p) (upd H p (L2.DX.itemsO p a))
theorem mt_itemsK : MtR X "dict.items" rItemsK := by
  intro pins s σ H x xs v us Q I rx rxs h
  obtain ⟨a, kvs, rfl, rfl, ha, q⟩ := h
  cases rx
  cases rxs
  obtain ⟨z, hd, vs, rel, dof⟩ := dk_of I.hok ha
  obtain ⟨ep, o, es, ho, hx, hdat, _⟩ := dof.dictAt
  refine DT.callItems (es := es) (ep := ep) hd ⟨o, ho, hx, hdat⟩ ?_
  have hf : H s.heap.objs.size = none := I.hok.fresh (Nat.le_refl _)
  exact ⟨.ref s.heap.objs.size, upd H s.heap.objs.size (L2.DX.itemsO s.heap.objs.size a), I.laid (t' := s.toks) (fun b u e => Heap.get?_push_of_some _ e) (Nat.le_refl _) (L2.DX.itemsO_ok (Heap.get?_push_size _ rfl)), rfl, q _ hf⟩
/-- pairs as they stand in a dict of ints -/
abbrev kv2 (q : Int × Int) : Key × V := (Sum.inl q.1, V.int q.2)
/-- a list at l of new tuples, the pairs ps -/
def PairsAt (H : Hp) (l : Addr) (ps : List (Int × Int)) : Prop := ∃ ts : List Addr, H l = some (.lst (ts.map V.ref)) ∧ Paired (fun (t : Addr) (q : Int × Int) => H t = some (.tup [.int q.1, .int q.2])) ts ps
theorem pq_get {α β : Type} {F : α → β → Prop} : ∀ {xs : List α} {ys : List β}, Paired F xs ys → ∀ {i : Nat} {x : α}, xs[i]? = some x → ∃ y, ys[i]? = some y ∧ F x y
  | _, _, .nil, i, x, h => by simp at h
  | _, _, .cons r t, 0, x, h => by simp at h; subst h; exact ⟨_, rfl, r⟩
  | _, _, .cons r t, i + 1, x, h => by
    obtain ⟨y, h1, h2⟩ := pq_get t (i := i) (x := x) (by simpa using h)
    exact ⟨y, by simpa using h1, h2⟩
theorem pq_mem {α β : Type} {F : α → β → Prop} {xs : List α} {ys : List β} (h : Paired F xs ys) {x : α} (hx : x ∈ xs) : ∃ y ∈ ys, F x y := by
  obtain ⟨i, hi⟩ := List.mem_iff_getElem?.mp hx
  obtain ⟨y, h1, h2⟩ := pq_get h hi
  exact ⟨y, List.mem_of_getElem? h1, h2⟩
theorem pq_map {α β γ δ : Type} {F : γ → δ → Prop} (f : α → γ) (g : β → δ) : ∀ {xs : List α} {ys : List β}, Paired (fun a b => F (f a) (g b)) xs ys → Paired F (xs.map f) (ys.map g)
  | _, _, .nil => .nil
  | _, _, .cons r t => .cons r (pq_map f g t)
/-- paired by a function of the first -/
theorem pq_fun {α β : Type} {F : α → β → Prop} (f : α → β) : ∀ {xs : List α}, (∀ x ∈ xs, F x (f x)) → Paired F xs (xs.map f)
  | [], _ => .nil
  | x :: xs, h => .cons (h x (List.mem_cons_self ..)) (pq_fun f fun y hy => h y (List.mem_cons_of_mem _ hy))
theorem pq_eq {α β : Type} {F : α → β → Prop} (f : α → β) (hf : ∀ a b, F a b → f a = b) : ∀ {xs : List α} {ys : List β}, Paired F xs ys → ys = xs.map f
  | _, _, .nil => rfl
  | _, _, .cons r t => by rw [List.map_cons, hf _ _ r, ← pq_eq f hf t]
/-- the pair that a tuple holds -/
def pairOf (H : Hp) : V → Int × Int
  | .ref t => (match H t with
    | some (.tup [.int i, .int j]) => (i, j)
    | _ => (0, 0))
  | _ => (0, 0)
theorem pairOf_at {H : Hp} {t : Addr} {q : Int × Int} (h : H t = some (.tup [.int q.1, .int q.2])) : pairOf H (.ref t) = q := by
  show (match H t with
    | some (.tup [.int i, .int j]) => (i, j)
    | _ => (0, 0)) = q
  rw [h]
/-- sorted(d.items()), d a dict of ints -/
def rSortIt : List V → Hp → VK → Prop := fun vs H Q => ∃ (p a : Addr) (kvs : List (Int × Int)), vs = [.ref p] ∧ H p = some (L2.DX.itemsO p a) ∧ H a = some (.dK (kvs.map kv2)) ∧
  ∀ (H' : Hp) (l : Addr) (ps : List (Int × Int)), Same H H' → H l = none → ps.Perm kvs → ps.Pairwise (fun x y => x.1 < y.1 ∨ (x.1 = y.1 ∧ x.2 ≤ y.2)) → PairsAt H' l ps → Q (.ref l) H'
theorem items_laid1 {pins : List (Addr × Obj)} {σ : L2.St} {H : Hp} {s : Shared} {h' : Heap} {tk : Nat} {kvs : List (Int × Int)} {es : Array DictEntry} {as : List Addr} (I : Inv X pins σ H s)
    (hk : ∀ b o, s.heap.get? b = some o → h'.get? b = some o) (hl : as.length = kvs.length) (hG : DT.Made es s.heap.objs.size h' as)
    (hes : ∀ (j : Nat) (e : DictEntry), es[j]? = some e → ∃ q : Int × Int, kvs[j]? = some q ∧ (∃ t, e.key = Value.int q.1 t) ∧ ∃ t, e.val = Value.int q.2 t) :
    ∃ H' : Hp, Same H H' ∧ (∀ t ∈ as, H t = none) ∧ Paired (fun (t : Addr) (q : Int × Int) => H' t = some (.tup [.int q.1, .int q.2])) as kvs ∧ Inv X pins σ H' { s with heap := h', toks := tk } := by
  have nd : as.Nodup := List.Pairwise.imp (fun {a b} (h : a < b) => Nat.ne_of_lt h) hG.rise
  have new : ∀ t ∈ as, H t = none := fun t ht => I.hok.fresh (Nat.le_of_lt (hG.above t ht))
  have atP := LiI.putT_at as (kvs.map kv2) H (by rw [List.length_map]; exact hl) nd
  have off : ∀ b, b ∉ as → LiI.putT H as (kvs.map kv2) b = H b := fun b h1 => LiI.putT_off as (kvs.map kv2) _ h1
  have low : ∀ b o, s.heap.get? b = some o → b ∉ as := fun b o e z => absurd (Heap.lt_size e) (Nat.not_lt.mpr (Nat.le_of_lt (hG.above b z)))
  have kp : ∀ b u, H b = some u → (LiI.putT H as (kvs.map kv2)) b = some u := fun b u e => by
    rw [off b (fun z => by rw [new b z] at e; cases e)]
    exact e
  have at2 : ∀ (j : Nat) (t : Addr), as[j]? = some t → ∃ q : Int × Int, kvs[j]? = some q ∧ LiI.putT H as (kvs.map kv2) t = some (.tup [.int q.1, .int q.2]) := fun j t ht => by
    obtain ⟨y, h1, h2⟩ := pq_get atP ht
    rw [List.getElem?_map] at h1
    obtain ⟨q, hq, e⟩ := Option.map_eq_some_iff.mp h1
    subst e
    exact ⟨q, hq, h2⟩
  refine ⟨LiI.putT H as (kvs.map kv2), kp, new, ?_, ?_⟩
  · have aux : ∀ (xs : List Addr) (ys : List (Int × Int)), xs.length = ys.length → (∀ (j : Nat) (t : Addr), xs[j]? = some t → ∃ q : Int × Int, ys[j]? = some q ∧ LiI.putT H as (kvs.map kv2) t = some (.tup [.int q.1, .int q.2])) →
        Paired (fun (t : Addr) (q : Int × Int) => LiI.putT H as (kvs.map kv2) t = some (.tup [.int q.1, .int q.2])) xs ys := by
      intro xs
      induction xs with
      | nil =>
        intro ys hlen _
        cases ys with
        | nil => exact .nil
        | cons => simp at hlen
      | cons x xs ih =>
        intro ys hlen h
        cases ys with
        | nil => simp at hlen
        | cons y ys =>
          obtain ⟨q, h1, h2⟩ := h 0 x rfl
          have e : y = q := Option.some.inj h1
          subst e
          exact .cons h2 (ih ys (by simpa using hlen) fun j t ht => h (j + 1) t (by simpa using ht))
    exact aux as kvs hl at2
  · refine I.call' (ch := []) rfl ⟨fun b o q _ _ _ => hk b o q, fun b o q _ _ _ => ⟨o.slots, hk b o q⟩, fun b o q n _ => ?_, fun b o q _ => ⟨o, hk b o q⟩, fun b xs q => kp b _ q, fun b o u q => kp b _ q, fun b ps q => ⟨#[], by rw [kp b _ q]; simp⟩⟩ (fun b u q => ?_) I.bare fun b z => by simp at z
    · rw [off b (low b o q)]
      exact n
    · by_cases hb : b ∈ as
      · obtain ⟨j, hj⟩ := List.mem_iff_getElem?.mp hb
        obtain ⟨q2, h1, h2⟩ := at2 j b hj
        rw [h2] at q
        cases q
        obtain ⟨e, f1, f2⟩ := hG.pairs j b hj
        obtain ⟨q3, g1, ⟨t1, g2⟩, t2, g3⟩ := hes j e f1
        rw [h1] at g1
        cases g1
        rw [g2, g3] at f2
        exact ⟨by show 2 ≤ sizeLine; decide, [Value.int q2.1 t1, Value.int q2.2 t2], .cons ⟨t1, rfl⟩ (.cons ⟨t2, rfl⟩ .nil), ⟨_, f2, rfl, _, rfl⟩⟩
      · rw [off b hb] at q
        exact (I.hok b u q).stay (fun d v _ y => hk d v y) (fun d y => kp d _ y) fun d xs y => kp d _ y
theorem cr_sortIt (hc : X.calm = true) : CallR X (.builtin "sorted") rSortIt := by
  intro pins s σ H xs us Q I r h
  obtain ⟨p, a, kvs, rfl, hp, ha, q⟩ := h
  obtain rfl := Vals.ref1 r
  have view : s.heap.IsItemsView p a := (show ObjOk X.prog X.w H s.heap p (L2.DX.itemsO p a) from I.hok p _ hp).1
  obtain ⟨z, hd, vs, rel, dof⟩ := dk_of I.hok ha
  obtain ⟨ep, o, es, ho, hx, hdat, hko, hpr, hnd⟩ := dof.dictAt
  have l1 : (kvs.map kv2).length = vs.length := Paired.length rel
  rw [List.length_map] at l1 z
  have l2 : es.size = vs.length := by
    have e := hpr.length
    rw [← e]
    exact Array.length_toList.symm
  have hh : X.A.handled = none := I.ok.hd hc
  have hes : ∀ (j : Nat) (e : DictEntry), es[j]? = some e → ∃ q : Int × Int, kvs[j]? = some q ∧ (∃ t, e.key = Value.int q.1 t) ∧ ∃ t, e.val = Value.int q.2 t := fun j e he => by
    have hj : j < vs.length := by
      have := (Array.getElem?_eq_some_iff.mp he).1
      omega
    obtain ⟨k, v, hkv⟩ : ∃ k v, vs[j] = (k, v) := ⟨_, _, rfl⟩
    obtain ⟨hkey, hval⟩ := hpr.get? (i := j) (e := e) (k := k) (v := v) (by rw [Array.getElem?_toList]; exact he) (by rw [List.getElem?_eq_getElem hj, hkv])
    obtain ⟨x, h1, h2⟩ := KV.at' rel (i := j) (k := k) (v := v) (by rw [List.getElem?_eq_getElem hj, hkv])
    rw [List.getElem?_map] at h1
    obtain ⟨q, hq, e2⟩ := Option.map_eq_some_iff.mp h1
    have e3 : Sum.inl q.1 = k := congrArg Prod.fst e2
    have e4 : V.int q.2 = x := congrArg Prod.snd e2
    subst e3 e4
    obtain ⟨t, ht⟩ := Value.isInt_shape (k := q.1) (v := e.key) hkey
    obtain ⟨t2, ht2⟩ := h2
    exact ⟨q, hq, ⟨t, ht⟩, t2, hval.trans ht2⟩
  refine DT.sortedI (es := es) (ep := ep) hh view ⟨o, ho, hx, hdat⟩ (by omega) fun h' tk as hk hlt hl hG => ?_
  obtain ⟨H1, s1, n1, p1, I1⟩ := items_laid1 (tk := tk) I hk (by omega) hG hes
  have nl : H1 h'.objs.size = none := I1.hok.fresh (Nat.le_refl _)
  have hob : (h'.push { cls := .type "list", data := .seq (as.map Value.ref).toArray }).get? h'.objs.size = some { cls := .type "list", data := .seq (as.map Value.ref).toArray 0 } := Heap.get?_push_size _ rfl
  have I2 : Inv X pins σ (upd H1 h'.objs.size (.lst (as.map V.ref))) { s with heap := h'.push { cls := .type "list", data := .seq (as.map Value.ref).toArray }, toks := tk } :=
    I1.laid (t' := tk) (fun b o e => Heap.get?_push_of_some _ e) (Nat.le_refl _) ⟨by rw [List.length_map]; omega, as.map Value.ref, 0, LiI.vals_refs as, hob⟩
  have p2 : ∀ t q2, H1 t = some (.tup q2) → upd H1 h'.objs.size (.lst (as.map V.ref)) t = some (.tup q2) := fun t q2 e => by
    rw [upd_ne (ne_of_none e nl)]
    exact e
  have pk : ∀ t ∈ as, ∃ q ∈ kvs, H1 t = some (.tup [.int q.1, .int q.2]) := fun t ht => by
    obtain ⟨q, h1, h2⟩ := pq_mem p1 ht
    exact ⟨q, h1, h2⟩
  refine sortPairs_run (k := pairOf H1) I2 upd_same (fun y hy => ?_) fun zs s' hs hb I3 => ?_
  · obtain ⟨t, ht, rfl⟩ := List.mem_map.mp hy
    obtain ⟨q, _, h2⟩ := pk t ht
    refine ⟨t, rfl, ?_⟩
    have e : pairOf H1 (.ref t) = q := pairOf_at h2
    rw [e]
    exact p2 t _ h2
  · rw [upd_upd] at I3
    have mem : ∀ z ∈ zs, ∃ t ∈ as, z = V.ref t := fun z hz => by
      obtain ⟨t, ht, e⟩ := List.mem_map.mp (hb.perm.mem_iff.mp hz)
      exact ⟨t, ht, e.symm⟩
    obtain ⟨ts, ets⟩ : ∃ ts : List Addr, zs = ts.map V.ref := by
      have aux : ∀ l : List V, (∀ z ∈ l, ∃ t ∈ as, z = V.ref t) → ∃ ts : List Addr, l = ts.map V.ref := by
        intro l
        induction l with
        | nil => exact fun _ => ⟨[], rfl⟩
        | cons x l ih =>
          intro h
          obtain ⟨t, _, e⟩ := h x (List.mem_cons_self ..)
          obtain ⟨ts, e2⟩ := ih fun z hz => h z (List.mem_cons_of_mem _ hz)
          exact ⟨t :: ts, by rw [e, e2]; rfl⟩
      exact aux zs mem
    subst ets
    have hin : ∀ t ∈ ts, t ∈ as := fun t ht => by
      obtain ⟨t', h1, e⟩ := mem (.ref t) (List.mem_map.mpr ⟨t, ht, rfl⟩)
      cases e
      exact h1
    have ekv : kvs = (as.map V.ref).map (pairOf H1) := by
      rw [List.map_map]
      refine pq_eq (F := fun t q => H1 t = some (.tup [.int q.1, .int q.2])) _ (fun t q e => ?_) p1
      exact pairOf_at e
    refine ⟨.ref h'.objs.size, _, I3, rfl, q _ _ ((ts.map V.ref).map (pairOf H1)) (fun b o e => ?_) (s1.free nl) ?_ ?_ ⟨ts, upd_same, ?_⟩⟩
    · rw [upd_ne (ne_of_none (s1 b o e) nl)]
      exact s1 b o e
    · rw [ekv]
      exact hb.perm.map _
    · rw [List.pairwise_map]
      refine List.Pairwise.imp (fun {x y} h => ?_) hs
      have h2 : ¬ SrtO.lexB (pairOf H1 y) (pairOf H1 x) = true := by
        intro z
        have h3 : SrtO.lexB (pairOf H1 y) (pairOf H1 x) = false := h
        rw [h3] at z
        cases z
      rw [SrtO.lexB_iff] at h2
      omega
    · rw [List.map_map]
      refine pq_fun _ fun t ht => ?_
      obtain ⟨q, _, h2⟩ := pk t (hin t ht)
      have e : pairOf H1 (.ref t) = q := pairOf_at h2
      rw [upd_ne (ne_of_none h2 nl)]
      show H1 t = some (.tup [.int (pairOf H1 (.ref t)).1, .int (pairOf H1 (.ref t)).2])
      rw [e]
      exact h2
end
end My
set_option Elab.async false
set_option maxRecDepth 100000
set_option maxHeartbeats 4000000
namespace My
open PySem PySem.Spec PyProof.Rows L2
section
variable {P : Program} {w : World} {A : Around} {E : Value → Shared → Prop} {s : Shared}
/-- set(xs) of a list of ints -/
theorem set_of_list {l : Addr} {items : Array Value} (ns : List Int) {Q : Value → Shared → Prop} (hh : A.handled = none) (hl : s.heap.IsList l items) (hit : IntsAre items.toList ns) (hb : ns.length + 1 < scanBound)
    (h : ∀ (h' : Heap) (tk c : Nat), SetR w h' s.heap.objs.size (fun j => decide (j ∈ ns)) c → c ≤ ns.length → (∀ b o, s.heap.get? b = some o → h'.get? b = some o) → Q (.ref s.heap.objs.size) { s with heap := h', toks := tk }) :
    wpAny (model P w) A (call (.type "set") [.ref l]) Q E s := by
  have hisz : items.size = ns.length := by
    have q := IntsAre.length hit
    rw [Array.length_toList] at q
    exact q
  obtain ⟨c, tl, hmro⟩ := F.called_set.mro
  have hmade := F.called_set.made
  have hsub := F.called_set.sub
  refine wpAny_call (codeAny_of_tree ?_)
  show wpAny _ _ (callAny (.type "set") _) _ _ _
  refine wpAny_pure ⟨Code.quiet_builtin _ (by decide +kernel), codeAny_builtin F.entry_type_call ?_⟩
  rw [Around.under_plain (weight_type_call_type "set" [.ref l] []) rfl]
  have h1 := F.called_set.notType
  have h2 := F.called_set.canCreate
  have hct := F.typeCall_set_1 (.ref l)
  repeat (any_goals (first | assumption | wp_step))
  refine codeAny_mono (code_set_led1 (.ref l) (E := E) (Q₁ := fun obj s₁ => obj = .ref s.heap.objs.size ∧ s₁ = { s with heap := s.heap.push { cls := .type "set", dict := none, data := .set #[] 0 (.fresh 0 0 (!w.params.followText "set-order")) } }) ⟨rfl, rfl⟩) fun r s₁ hr => ?_
  cases r with
  | error e => exact hr
  | ok fl =>
    cases fl with
    | ret obj =>
      obtain ⟨rfl, rfl⟩ := hr
      have hS : (s.heap.push { cls := .type "set", dict := none, data := .set #[] 0 (.fresh 0 0 (!w.params.followText "set-order")) }).get? s.heap.objs.size = some { cls := .type "set", dict := none, data := .set #[] 0 (.fresh 0 0 (!w.params.followText "set-order")) } := Heap.get?_push_size _ rfl
      have hT : Shared.TypeIs { s with heap := s.heap.push { cls := .type "set", dict := none, data := .set #[] 0 (.fresh 0 0 (!w.params.followText "set-order")) } } (.ref s.heap.objs.size) "set" := ⟨_, hS, rfl⟩
      have hli := F.called_set.init.lookup
      have hbi := F.called_set.init.bind (.ref s.heap.objs.size)
      repeat (any_goals (first | assumption | wp_step))
      refine codeAny_mono (codeAny_call_builtin (R := wants (fun r s₂ => r = .none ∧ ∃ h' tk c, s₂ = { s with heap := h', toks := tk } ∧ SetR w h' s.heap.objs.size (fun j => decide (j ∈ ns)) c ∧ c ≤ ns.length ∧
          (∀ b o, s.heap.get? b = some o → h'.get? b = some o)) E) F.called_set.init.plain F.entry_set_init (check_set_init_1 hT ?_)) fun r₂ s₂ hr₂ => ?_
      · obtain ⟨ol, hol, hcl, nl, hdl⟩ := hl
        obtain ⟨ocls, odict, odata, oslots⟩ := ol
        simp only at hcl hdl
        subst hcl; subst hdl
        have hol' : (s.heap.push { cls := .type "set", dict := none, data := .set #[] 0 (.fresh 0 0 (!w.params.followText "set-order")) }).get? l = some { cls := .type "list", dict := odict, data := .seq items nl, slots := oslots } := Heap.get?_push_of_some _ hol
        have hsls := F.sub_list_set
        have hslf := F.sub_list_frozenset
        have hne : (Value.type "list" == Value.type "dict") = false := by decide
        have hl1 : (s.heap.push { cls := .type "set", dict := none, data := .set #[] 0 (.fresh 0 0 (!w.params.followText "set-order")) }).IsList l items := ⟨_, hol', rfl, nl, rfl⟩
        unfold Builtin.«set.__init__» noKeywords Builtin.Frozenset.updateFrom
        generalize hPI : pyIter = PI
        wp_walk
        subst hPI
        refine wpAny_pyIter_list hl1 ?_
        refine wpAny_bind (wpAny_runValue ?_)
        have hlS : l < s.heap.objs.size := Heap.lt_size hol
        have hh3 : A.in1.in1.in1.handled = none := by simp [hh]
        have hz1 : (s.heap.push { cls := .type "set", dict := none, data := .set #[] 0 (.fresh 0 0 (!w.params.followText "set-order")) }).objs.size = s.heap.objs.size + 1 := Heap.size_push ..
        have hneI : l ≠ (s.heap.push { cls := .type "set", dict := none, data := .set #[] 0 (.fresh 0 0 (!w.params.followText "set-order")) }).objs.size := by
          rw [Heap.size_push]; exact Nat.ne_of_lt (Nat.lt_succ_of_lt hlS)
        have hSf : s.heap.objs.size ∉ [(s.heap.push { cls := .type "set", dict := none, data := .set #[] 0 (.fresh 0 0 (!w.params.followText "set-order")) }).objs.size, l] := by
          rw [Heap.size_push]; simp only [List.mem_cons, List.mem_singleton, List.not_mem_nil, or_false, not_or]
          exact ⟨Nat.ne_of_lt (Nat.lt_succ_self _), Nat.ne_of_gt hlS⟩
        have hval : ∀ (i : Nat) (v : Value), items[i]? = some v → ∃ k t, ns[i]? = some k ∧ v = .int k t := fun i v hv => by
          have hi : i < ns.length := by rw [← hisz]; exact (Array.getElem?_eq_some_iff.mp hv).1
          obtain ⟨t, e⟩ := PyProof.Rows.IntsAre.int_at hit i v (by rw [Array.getElem?_toList]; exact hv)
          refine ⟨ns[i], t, List.getElem?_eq_getElem hi, ?_⟩
          rw [e, List.getD_eq_getElem?_getD, List.getElem?_eq_getElem hi] <;> rfl
        refine set_update_ints ((Walks.list hh3 _ l hneI items).toS) s.heap.objs.size
          hSf ns hisz hb hval (items.size - 0) 0 _ (by omega) (Nat.zero_le _)
          ⟨⟨_, Heap.get?_push_size _ rfl, rfl, rfl⟩, (hl1.push _)⟩ ?hS0 ?hR
        case hS0 =>
          have hget : ((s.heap.push { cls := .type "set", dict := none, data := .set #[] 0 (.fresh 0 0 (!w.params.followText "set-order")) }).push { cls := .type "list_iterator", data := .fields #[.ref l, .int 0 0] }).get? s.heap.objs.size
              = some { cls := .type "set", dict := none, data := .set #[] 0 (.fresh 0 0 (!w.params.followText "set-order")) } := Heap.get?_push_of_some _ hS
          exact ⟨0, Nat.le_refl 0, setR_new_at hget⟩
        case hR =>
          intro s' c' hm hc' hS'
          obtain ⟨h', g2, d', tk', os'⟩ := s'
          have eg : g2 = s.gens := hm.gens
          have ed : d' = s.drawn := hm.drawn
          have eo : os' = s.os := hm.os
          subst eg; subst ed; subst eo
          show wpAny _ _ _ _ _ _
          refine wpAny_pure ?_
          show wpAny _ _ (ret Value.none) _ _ _
          rw [hisz] at hc'
          refine wpAny_pure ⟨rfl, h', tk', c', rfl, hS', hc', fun b o e => ?_⟩
          have hb0 : b < s.heap.objs.size := Heap.lt_size e
          have hb1 : b ≠ s.heap.objs.size := Nat.ne_of_lt hb0
          have hb2 : b ≠ (s.heap.push { cls := .type "set", dict := none, data := .set #[] 0 (.fresh 0 0 (!w.params.followText "set-order")) }).objs.size := by
            rw [Heap.size_push]; exact Nat.ne_of_lt (Nat.lt_succ_of_lt hb0)
          exact hm.heap b o (by simp only [List.mem_cons, List.mem_singleton, List.not_mem_nil, or_false, not_or]; exact ⟨hb1, hb2⟩) (Heap.get?_push_of_some _ (Heap.get?_push_of_some _ e))
      · cases r₂ with
        | error e => exact hr₂
        | ok fl₂ =>
          cases fl₂ with
          | ret r =>
            obtain ⟨rfl, h', tk, c', rfl, hS', hc', hk'⟩ := hr₂
            repeat (any_goals (first | assumption | wp_step))
            exact h _ _ _ hS' hc' hk'
          | _ => exact hr₂.elim
    | _ => exact hr.elim
end
section
variable {X : Cx}
def rSetI (K : PySem.W.Frag) (w : World) : List V → Hp → VK → Prop := fun vs H Q => ∃ (a : Addr) (ns : List Int), vs = [V.ref a] ∧ SqL K H a (ns.map V.int) ∧ ns.length ≤ 60 ∧ ∀ (p : Addr) (c : Nat), H p = none → c ≤ ns.length → Q (.ref p) (upd H p (SetO w p (fun j => decide (j ∈ ns)) c))
theorem cr_setI (hc : X.calm = true) : CallR X (.type "set") (rSetI X.K X.w) := by
  intro pins s σ H vs us Q I r h
  obtain ⟨a, ns, rfl, hs, hl, q⟩ := h
  rw [Vals.ref1 r]
  obtain ⟨its, rv, hL, hz⟩ := I.list hs
  refine set_of_list ns (I.ok.hd hc) hL.isList rv.ints (by unfold scanBound; omega) fun h' tk c R hc' hk => ?_
  have hn : H s.heap.objs.size = none := I.hok.fresh (Nat.le_refl _)
  exact ⟨.ref s.heap.objs.size, _, I.laid (t' := tk) hk (Nat.le_refl _) (setO_new R), rfl, q _ c hn hc'⟩
end
end My
set_option Elab.async false
set_option linter.all false
set_option maxRecDepth 100000
set_option maxHeartbeats 4000000
namespace My
open PySem PySem.Spec PyProof.Rows L2
section
variable {X : Cx}
/-- name = {..} on one line, the name a local -/
theorem ps_setDc {i : Nat} {y : Str} {py : Pos} {kx vx tg iter : Expr} {ifs : List Expr} {scope : Scope} {own : List (Str × Nat)} {pos spos : Pos} {wi : TI} {g : TG} {tt : TT} {tk tv : TE} (hc : X.calm = true) (hN : X.N.Nodup) (hy : X.N[i]? = some y) (hyl : X.env.scope.names.lookup y = some .local)
    (hsw : swapsWith (.DictComp kx vx [⟨tg, iter, ifs, 0⟩] scope pos) (some (.Name y py)) spos.line X.env = pure true) (hi : PI X tg iter wi) (ok : BlkOk X.N X.env.scope scope own)
    (hg : ∀ (s : Shared) (H : Hp) (C : Addr) (cl : List (Str × Addr)) (fp : List Addr), PG (X.blk s H scope (compEnvC scope cl C X.env) fp) tg g) (ht : ∀ (s : Shared) (H : Hp) (C : Addr) (cl : List (Str × Addr)) (fp : List Addr), PTs (X.blk s H scope (compEnvC scope cl C X.env) fp) ifs tt)
    (hk : ∀ (s : Shared) (H : Hp) (C : Addr) (cl : List (Str × Addr)) (fp : List Addr), PE (X.blk s H scope (compEnvC scope cl C X.env) fp) kx tk)
    (he : ∀ (s : Shared) (H : Hp) (C : Addr) (cl : List (Str × Addr)) (fp : List Addr), PE (X.blk s H scope (compEnvC scope cl C X.env) fp) vx tv) (hs : ∀ x, foldedSetIterable iter X.env x = pure x := by intro _; rfl) :
    PS X (.Assign [.Name y py] (.DictComp kx vx [⟨tg, iter, ifs, 0⟩] scope pos) spos) (tAsg (tDc wi g tt tk tv (own.map (·.2))) (gName i)) := by
  refine ⟨fun pins s σ H D I h => ?_⟩
  rw [exec_Assign_Name_used _ _ _ _ hsw]
  refine wpAny_bind (wpAny_standAt (wpAny_bind ?_))
  show wpAny _ X.A (do let _ ← comprehension (.DictComp kx vx [⟨tg, iter, ifs, 0⟩] scope pos) scope X.env (firstIterPos [⟨tg, iter, ifs, 0⟩] pos) newDict false (eval iter X.env) (some (assign (.Name y py) X.env))) _ _ s
  have h : tDc wi g tt tk tv (own.map (·.2)) σ H (fun x H1 => gName i x σ H1 D.nx) := h
  refine wpAny_bind (thn (dc_core (Qf := fun _ s' => SP X pins D .next s') hc hN I hi ok hg ht hk he hs h fun L C s' m H' I' q hn f => ?_) fun _ s' hq => wpAny_pure (wpAny_pure hq))
  show wpAny _ _ (assign (.Name y py) X.env (.ref L)) _ _ _
  refine wpAny_assign_Name (store_ok2 (v := V.ref L) I' hN hy (.inl hyl) rfl (fun s2 I2 ⟨a, sb, ha⟩ => ?_) (.inr hyl))
  obtain ⟨f0, f1, f2, f3, f4, f5⟩ := f
  have haC : C ≠ a := by
    rcases ha with z | z
    · rw [z]; exact f1
    · exact fun e => f4 y a z e.symm
  refine ⟨m, hn.sameBut sb haC, fun h3 sb3 => ?_⟩
  exact ⟨_, H', I2.turned (t' := s2.toks) (fun b o hb e => (sb3.2 b hb).trans e) f0 f1 f3 f4 f5, q⟩
theorem sw_trueD {kx vx : Expr} {gs : List Comprehension} {scope : Scope} {pos py : Pos} {y : Str} {l : Nat} {env : Env} (hk : env.scope.kind = .function) (hy : env.scope.names.lookup y = some .local) (hl : (py.line == pos.line) = true)
    (ha : (scope.names.any fun (n, k) => n == y && (k == .local || k == .cell)) = false) : swapsWith (.DictComp kx vx gs scope pos) (some (.Name y py)) l env = pure true := by
  have ky : env.kindOf y = some .local := hy
  have hb : env.blockKind = .function := by unfold Env.blockKind; rw [hk]; rfl
  unfold swapsWith
  simp only [hb, ky, ha, Expr.pos, hl]
  rfl
end
end My
set_option Elab.async false
set_option linter.all false
set_option maxRecDepth 100000
set_option maxHeartbeats 4000000
namespace My
open PySem PySem.Spec PyProof.Rows L2
abbrev cE (K : PySem.W.Frag) : Addr := He.ga K "Expected"
abbrev cR (K : PySem.W.Frag) : Addr := He.ga K "Rule"
abbrev cS (K : PySem.W.Frag) : Addr := He.ga K "Scene"
abbrev cU (K : PySem.W.Frag) : Addr := He.ga K "Run"
/-- what the walk asks of the top -/
structure Txt (K : PySem.W.Frag) (mg : Str → Option Value) : Prop where
  clE : Cls K (cE K)
  gE : mg "Expected" = some (.ref (cE K))
  mkE : Mk K (cE K) (He.ma K (cE K) "__init__")
  nE_schedule : NoAttr K (cE K) "schedule"
  nE_window : NoAttr K (cE K) "window"
  nE_waiting : NoAttr K (cE K) "waiting"
  mE_add : Meth K (cE K) "add" (He.ma K (cE K) "add")
  mE_next_slot : Meth K (cE K) "next_slot" (He.ma K (cE K) "next_slot")
  mE_take : Meth K (cE K) "take" (He.ma K (cE K) "take")
  clR : Cls K (cR K)
  gR : mg "Rule" = some (.ref (cR K))
  mkR : Mk K (cR K) (He.ma K (cR K) "__init__")
  nR_listed : NoAttr K (cR K) "listed"
  nR_ending : NoAttr K (cR K) "ending"
  nR_sums : NoAttr K (cR K) "sums"
  mR_gaps : Meth K (cR K) "gaps" (He.ma K (cR K) "gaps")
  mR_tail : Meth K (cR K) "tail" (He.ma K (cR K) "tail")
  mR_attempts : Meth K (cR K) "attempts" (He.ma K (cR K) "attempts")
  mR_offset_of : Meth K (cR K) "offset_of" (He.ma K (cR K) "offset_of")
  mR_period : Meth K (cR K) "period" (He.ma K (cR K) "period")
  mR_first_from : Meth K (cR K) "first_from" (He.ma K (cR K) "first_from")
  mR_attempt_at : Meth K (cR K) "attempt_at" (He.ma K (cR K) "attempt_at")
  clS : Cls K (cS K)
  gS : mg "Scene" = some (.ref (cS K))
  mkS : Mk K (cS K) (He.ma K (cS K) "__init__")
  nS_its_rule : NoAttr K (cS K) "its_rule"
  nS_its_starts : NoAttr K (cS K) "its_starts"
  nS_windows : NoAttr K (cS K) "windows"
  nS_its_length : NoAttr K (cS K) "its_length"
  mS_rule : Meth K (cS K) "rule" (He.ma K (cS K) "rule")
  mS_starts : Meth K (cS K) "starts" (He.ma K (cS K) "starts")
  mS_outages : Meth K (cS K) "outages" (He.ma K (cS K) "outages")
  mS_length : Meth K (cS K) "length" (He.ma K (cS K) "length")
  mS_check_client : Meth K (cS K) "check_client" (He.ma K (cS K) "check_client")
  mS_attempt_in : Meth K (cS K) "attempt_in" (He.ma K (cS K) "attempt_in")
  mS_outage_at : Meth K (cS K) "outage_at" (He.ma K (cS K) "outage_at")
  mS_listed_slots : Meth K (cS K) "listed_slots" (He.ma K (cS K) "listed_slots")
  mS_moments : Meth K (cS K) "moments" (He.ma K (cS K) "moments")
  clU : Cls K (cU K)
  gU : mg "Run" = some (.ref (cU K))
  mkU : Mk K (cU K) (He.ma K (cU K) "__init__")
  nU_its_scene : NoAttr K (cU K) "its_scene"
  nU_pattern : NoAttr K (cU K) "pattern"
  nU_begins : NoAttr K (cU K) "begins"
  nU_changes : NoAttr K (cU K) "changes"
  nU_services : NoAttr K (cU K) "services"
  nU_closed : NoAttr K (cU K) "closed"
  nU_waiting : NoAttr K (cU K) "waiting"
  nU_free_from : NoAttr K (cU K) "free_from"
  mU_advance : Meth K (cU K) "advance" (He.ma K (cU K) "advance")
  mU_failing_until : Meth K (cU K) "failing_until" (He.ma K (cU K) "failing_until")
  mU_skip_to : Meth K (cU K) "skip_to" (He.ma K (cU K) "skip_to")
  mU_latest_moment : Meth K (cU K) "latest_moment" (He.ma K (cU K) "latest_moment")
  mU_is_repeated : Meth K (cU K) "is_repeated" (He.ma K (cU K) "is_repeated")
  mU_close : Meth K (cU K) "close" (He.ma K (cU K) "close")
  mU_decide : Meth K (cU K) "decide" (He.ma K (cU K) "decide")
  mU_outcome : Meth K (cU K) "outcome" (He.ma K (cU K) "outcome")
  mU_outcomes : Meth K (cU K) "outcomes" (He.ma K (cU K) "outcomes")
  mU_order : Meth K (cU K) "order" (He.ma K (cU K) "order")
  mU_is_active : Meth K (cU K) "is_active" (He.ma K (cU K) "is_active")
  mU_active : Meth K (cU K) "active" (He.ma K (cU K) "active")
  mU_attempting : Meth K (cU K) "attempting" (He.ma K (cU K) "attempting")
  mU_busy_with : Meth K (cU K) "busy_with" (He.ma K (cU K) "busy_with")
  mU_event : Meth K (cU K) "event" (He.ma K (cU K) "event")
  g_is_integer : mg "is_integer" = some (.ref (He.ga K "is_integer"))
  g_is_between : mg "is_between" = some (.ref (He.ga K "is_between"))
  g_power : mg "power" = some (.ref (He.ga K "power"))
  g_check_window : mg "check_window" = some (.ref (He.ga K "check_window"))
  g_is_entry : mg "is_entry" = some (.ref (He.ga K "is_entry"))
  g_check_log : mg "check_log" = some (.ref (He.ga K "check_log"))
  g_check_starts_logs : mg "check_starts_logs" = some (.ref (He.ga K "check_starts_logs"))
  g_slots_in : mg "slots_in" = some (.ref (He.ga K "slots_in"))
  g_counts_of : mg "counts_of" = some (.ref (He.ga K "counts_of"))
  g_expected_log : mg "expected_log" = some (.ref (He.ga K "expected_log"))
  g_infer_starts : mg "infer_starts" = some (.ref (He.ga K "infer_starts"))
  g_remaining_log : mg "remaining_log" = some (.ref (He.ga K "remaining_log"))
  g_is_tail : mg "is_tail" = some (.ref (He.ga K "is_tail"))
  g_check_starts_scenes : mg "check_starts_scenes" = some (.ref (He.ga K "check_starts_scenes"))
  g_is_window : mg "is_window" = some (.ref (He.ga K "is_window"))
  g_check_outages : mg "check_outages" = some (.ref (He.ga K "check_outages"))
  g_law_source_of : mg "_law_source_of" = some (.ref (He.ga K "_law_source_of"))
  g_law_next : mg "_law_next" = some (.ref (He.ga K "_law_next"))
  g_law_one : mg "_law_one" = some (.ref (He.ga K "_law_one"))
  g_law_cell_at : mg "_law_cell_at" = some (.ref (He.ga K "_law_cell_at"))
  g_law : mg "law" = some (.ref (He.ga K "law"))
  i_MOST_ENTRIES : ∃ u, mg "MOST_ENTRIES" = some u ∧ RelV (.int 500) u
  i_MOST_STARTS : ∃ u, mg "MOST_STARTS" = some u ∧ RelV (.int 40) u
  i_MOST_GAPS : ∃ u, mg "MOST_GAPS" = some u ∧ RelV (.int 20) u
  i_MOST_GAP : ∃ u, mg "MOST_GAP" = some u ∧ RelV (.int 1000000000000) u
  i_MOST_FACTOR : ∃ u, mg "MOST_FACTOR" = some u ∧ RelV (.int 1000) u
  i_MOST_CLIENTS : ∃ u, mg "MOST_CLIENTS" = some u ∧ RelV (.int 40) u
  i_MOST_OUTAGES : ∃ u, mg "MOST_OUTAGES" = some u ∧ RelV (.int 10) u
  f_isinstance : mg "isinstance" = none
  f_int : mg "int" = none
  f_bool : mg "bool" = none
  f_tuple : mg "tuple" = none
  f_list : mg "list" = none
  f_str : mg "str" = none
  f_len : mg "len" = none
  f_all : mg "all" = none
  f_enumerate : mg "enumerate" = none
  f_range : mg "range" = none
  f_sorted : mg "sorted" = none
  f_min : mg "min" = none
  f_max : mg "max" = none
  f_sum : mg "sum" = none
  f_dict : mg "dict" = none
  f_set : mg "set" = none
  iR : C8.InsC K (cR K)
  iS : C8.InsC K (cS K)
theorem intF {K : PySem.W.Frag} {h : Heap} {mg : Str → Option Value} (X : K.In h) (G : h.Ns mainGlobals mg) {x : Str} {i : Int} (c : (He.Fa.int x i).ok K = true) : ∃ u, mg x = some u ∧ RelV (.int i) u := by
  obtain ⟨t, e⟩ := He.int_ok X G c
  exact ⟨_, e, t, rfl⟩
/-! ### heaps -/
theorem same_nw {H H' : Hp} (e : Same H H') {p : Addr} {o : HO} (h : H' p = none) : Same H (upd H' p o) := fun b u hb => by
  rw [upd_ne (ne_of_none (e b u hb) h)]
  exact e b u hb
theorem same_new {H : Hp} {p : Addr} {o : HO} (h : H p = none) : Same H (upd H p o) := same_nw (Same.refl H) h
/-- an object that H does not know changes -/
theorem same_mu {H H' : Hp} (e : Same H H') {p : Addr} {o : HO} (h : H p = none) : Same H (upd H' p o) := fun b u hb => by
  rw [upd_ne (ne_of_none hb h)]
  exact e b u hb
theorem same_tup {K : PySem.W.Frag} {H H' : Hp} {a : Addr} {xs : List V} (e : Same H H') (h : SqT K H a xs) : SqT K H' a xs := by
  rcases h with (h | ⟨o, h⟩) | h
  · exact .inl (.inl (e _ _ h))
  · exact .inl (.inr ⟨o, e _ _ h⟩)
  · exact .inr h
theorem szL {n : Nat} (h : n ≤ 100000) : n ≤ sizeLine := Nat.le_trans h (by decide)
theorem szLt {n : Nat} (h : n < 100000) : n < sizeLine := Nat.lt_of_lt_of_le h (by decide)
/-! ### fields, methods by one word -/
/-- the object x has the field f with the value v -/
def Fd (K : PySem.W.Frag) (H : Hp) (x : V) (f : Str) (v : V) : Prop := ∃ a C dx fs, x = .ref a ∧ H a = some (.ins C dx fs) ∧ Cls K C ∧ NoAttr K C f ∧ fs.lookup f = some v
/-- the object x is one of the class at C without a field m -/
def Md (H : Hp) (x : V) (C : Addr) (m : Str) : Prop := ∃ a dx fs, x = .ref a ∧ H a = some (.ins C dx fs) ∧ fs.lookup m = none
theorem Fd.mono {K : PySem.W.Frag} {H H' : Hp} {x : V} {f : Str} {v : V} (e : Same H H') (h : Fd K H x f v) : Fd K H' x f v := by
  obtain ⟨a, C, dx, fs, h1, h2, h3⟩ := h
  exact ⟨a, C, dx, fs, h1, e _ _ h2, h3⟩
theorem Md.mono {H H' : Hp} {x : V} {C : Addr} {m : Str} (e : Same H H') (h : Md H x C m) : Md H' x C m := by
  obtain ⟨a, dx, fs, h1, h2, h3⟩ := h
  exact ⟨a, dx, fs, h1, e _ _ h2, h3⟩
def tF (K : PySem.W.Frag) (ta : TE) (f : Str) : TE := fun σ H Q => ta σ H fun x H1 => ∃ v, Fd K H1 x f v ∧ Q v H1
def tM (C : Addr) (m : Str) (sp : Sp) (ta : TE) (t : TA) : TE := fun σ H Q => ta σ H fun x H1 => Md H1 x C m ∧ t σ H1 fun vs H2 => sp (x :: vs) H2 Q E0
section
variable {X : Cx} {k j : Nat} {C : Addr} {f m : Str} {sp : Sp} {p pos apos : Pos} {e o : Expr} {es : List Expr} {ta : TE} {t : TA}
theorem pe_f (he : PE X e ta) (hb : attributeBase e f X.env (eval e X.env) = eval e X.env := by rfl) : PE X (.Attribute e f pos) (tF X.K ta f) := by
  have h := pe_fld (f := f) (pos := pos) he hb
  have q : tF X.K ta f = tFld X.K ta f := by
    funext σ H Q
    show ta σ H _ = ta σ H _
    congr 1
    funext x H1
    refine propext ⟨?_, ?_⟩
    · rintro ⟨v, ⟨a, C, dx, fs, h1, h2, h3, h4, h5⟩, q⟩
      exact ⟨a, C, dx, fs, v, h1, h2, h3, h4, h5, q⟩
    · rintro ⟨a, C, dx, fs, v, h1, h2, h3, h4, h5, q⟩
      exact ⟨v, ⟨a, C, dx, fs, h1, h2, h3, h4, h5⟩, q⟩
  rw [q]
  exact h
theorem tM_eq : tM C m sp ta t = tMeth C m sp [] E0 ta t := by
  funext σ H Q
  show ta σ H _ = ta σ H _
  congr 1
  funext x H1
  refine propext ⟨?_, ?_⟩
  · rintro ⟨⟨a, dx, fs, h1, h2, h3⟩, q⟩
    exact ⟨a, dx, fs, h1, h2, h3, by simpa using q⟩
  · rintro ⟨a, dx, fs, h1, h2, h3, q⟩
    exact ⟨⟨a, dx, fs, h1, h2, h3⟩, by simpa using q⟩
theorem pe_m {pl : Sem Bool} (c : C8.Met X.prog X.w X.K X.mg X.base k C m sp []) (hr : Room j X.A) (hk : k ≤ j) (he : PE X o ta) (ha : PA X (e :: es) t)
    (hst : starEach (e :: es) X.env = (false, eval e X.env) :: starEach es X.env := by rfl) (hpl : (backTo pos (starEach es X.env)).any (·.1) = false := by rfl)
    (ht : eval (.Call (.Attribute o m apos) (e :: es) [] pos) X.env = (do
      let ov ← eval o X.env
      standAt apos.atName
      let (f, first) ← holding [ov] (getMethod ov m pl)
      callWith pos f first (backTo pos (starEach (e :: es) X.env)) (backToKw pos (keywordEach [] X.env))) := by rfl) :
    PE X (.Call (.Attribute o m apos) (e :: es) [] pos) (tM C m sp ta t) := by
  rw [tM_eq]
  exact C8.pe_mt (pl := pl) c hr hk he ha hst hpl ht
theorem pe_m0 {pl : Sem Bool} (c : C8.Met X.prog X.w X.K X.mg X.base k C m sp []) (hr : Room j X.A) (hk : k ≤ j) (he : PE X o ta)
    (ht : eval (.Call (.Attribute o m apos) [] [] pos) X.env = (do
      let ov ← eval o X.env
      standAt apos.atName
      let (f, first) ← holding [ov] (getMethod ov m pl)
      callWith pos f first (backTo pos (starEach [] X.env)) (backToKw pos (keywordEach [] X.env))) := by rfl) :
    PE X (.Call (.Attribute o m apos) [] [] pos) (tM C m sp ta tNil) := by
  rw [tM_eq]
  exact C8.pe_mt0 (pl := pl) c hr hk he ht
end
/-! ### comprehensions that change nothing -/
/-- a list of values, one for each of a list of turns -/
abbrev Made (R : Nat → V → Hp → Prop) (H : Hp) (acc : List V) (is : List Nat) : Prop := Paired (fun (y : V) (i : Nat) => R i y H) acc is
theorem Made.snoc {R : Nat → V → Hp → Prop} {H : Hp} {y : V} {i : Nat} (hy : R i y H) : ∀ {acc : List V} {is : List Nat}, Made R H acc is → Made R H (acc ++ [y]) (is ++ [i])
  | _, _, .nil => .cons hy .nil
  | _, _, .cons h t => .cons h (Made.snoc hy t)
/-- all but lists stand as they stood -/
def SameT (H H' : Hp) : Prop := ∀ b o, (∀ xs, o ≠ HO.lst xs) → H b = some o → H' b = some o
theorem sameT_of {H H' : Hp} (e : Same H H') : SameT H H' := fun b o _ h => e b o h
theorem sameT_lst {H : Hp} {D : Addr} {xs ys : List V} (h : H D = some (.lst xs)) : SameT H (upd H D (.lst ys)) := fun b o ho hb => by
  rw [upd_ne (fun e => by rw [e, h] at hb; cases hb; exact ho _ rfl)]
  exact hb
theorem Made.mono {R : Nat → V → Hp → Prop} (hR : ∀ i y H H', SameT H H' → R i y H → R i y H') {H H' : Hp} (e : SameT H H') : ∀ {acc : List V} {is : List Nat}, Made R H acc is → Made R H' acc is
  | _, _, .nil => .nil
  | _, _, .cons h t => .cons (hR _ _ _ _ e h) (Made.mono hR e t)
theorem Made.fn {f : Nat → V} {H : Hp} : ∀ {acc : List V} {is : List Nat}, Made (fun i y _ => y = f i) H acc is → acc = is.map f
  | _, _, .nil => rfl
  | _, _, .cons h t => by rw [List.map_cons, ← Made.fn (H := H) t]; exact congrArg (· :: _) h
theorem Made.len {R : Nat → V → Hp → Prop} {H : Hp} : ∀ {acc : List V} {is : List Nat}, Made R H acc is → acc.length = is.length
  | _, _, .nil => rfl
  | _, _, .cons _ t => congrArg Nat.succ (Made.len t)
theorem rangeF_succ (keep : Nat → Bool) (i : Nat) : (List.range (i + 1)).filter keep = (List.range i).filter keep ++ (if keep i = true then [i] else []) := by
  rw [List.range_succ, List.filter_append]
  cases h : keep i <;> simp [h]
theorem lc_pure {J : It} {n : Nat} {G : Hp → Prop} {Y : Nat → Hp → V → Hp → Prop} (w : Walk J n G Y) {g : TG} {tt : TT} {te : TE} {vs : List Nat} {σ : L2.St} {H1 : Hp} {D : Addr} {Qd : Hp → Prop}
    (keep : Nat → Bool) (R : Nat → V → Hp → Prop) (hR : ∀ i y H H', SameT H H' → R i y H → R i y H') (hD : H1 D = none) (hn : n < 100000)
    (hG : ∀ H, Same H1 H → G H)
    (hs : ∀ i x H H' (Ky : V → Hp → Prop) (Kn : Hp → Prop), i < n → Same H1 H → Y i H x H' → (keep i = true → ∀ y H4, R i y H4 → Same H H4 → Ky y H4) → (keep i = false → ∀ H3, Same H H3 → Kn H3) →
      g x (wipe σ vs) H' fun σ2 H2 => wipe σ2 vs = wipe σ vs ∧ tt σ2 H2 fun b H3 => if b = true then te σ2 H3 Ky else Kn H3)
    (hd : ∀ H acc, Same H1 H → H D = some (.lst acc) → Made R H acc ((List.range n).filter keep) → Qd H) :
    ∃ W : Nat → Nat → Hp → Prop, (∃ m, W 0 m (upd H1 D (.lst []))) ∧ ∀ i m H, W i m H →
      (J.stop i H ∧ Qd H) ∨ (J.go i H ∧ ∃ Nx : Hp → Prop, (∀ H', Nx H' → ∃ m', m' < m ∧ W (i + 1) m' H') ∧ ∀ x H', J.yld i H x H' → g x (wipe σ vs) H' fun σ2 H2 => wipe σ2 vs = wipe σ vs ∧ tt σ2 H2 fun b H3 =>
        if b = true then te σ2 H3 fun y H4 => ∃ acc, H4 D = some (.lst acc) ∧ acc.length < sizeLine ∧ Nx (upd H4 D (.lst (acc ++ [y]))) else Nx H3) := by
  refine lc_it w (fun i H => Same H1 H ∧ ∃ acc, H D = some (.lst acc) ∧ Made R H acc ((List.range i).filter keep)) ⟨same_new hD, [], upd_same, .nil⟩ (fun i H _ h => hG H h.1) ?_ (fun H ⟨s, acc, h1, h2⟩ => hd H acc s h1 h2)
  rintro i x H H' hi ⟨s, acc, h1, h2⟩ hy
  refine hs i x H H' _ _ hi s hy (fun hk y H4 ry s4 => ?_) (fun hk H3 s3 => ?_)
  · refine ⟨acc, s4 _ _ h1, ?_, same_mu (s.trans s4) hD, acc ++ [y], upd_same, ?_⟩
    · have l1 := h2.len
      have l2 := List.length_filter_le keep (List.range i)
      rw [List.length_range] at l2
      exact szLt (by omega)
    · rw [rangeF_succ, if_pos hk]
      have st : SameT H4 (upd H4 D (.lst (acc ++ [y]))) := sameT_lst (s4 _ _ h1)
      exact Made.snoc (hR _ _ _ _ st ry) (Made.mono hR st (Made.mono hR (sameT_of s4) h2))
  · refine ⟨s.trans s3, acc, s3 _ _ h1, ?_⟩
    rw [rangeF_succ, if_neg (by rw [hk]; exact Bool.false_ne_true), List.append_nil]
    exact Made.mono hR (sameT_of s3) h2
theorem yes_te {te : TE} {σ : L2.St} {H : Hp} {Ky : V → Hp → Prop} {Kn : Hp → Prop} (h : te σ H Ky) : tYes σ H fun b H3 => if b = true then te σ H3 Ky else Kn H3 := by
  show (if true = true then te σ H Ky else Kn H)
  rw [if_pos rfl]
  exact h
end My
set_option Elab.async false
set_option linter.all false
set_option maxRecDepth 100000
set_option maxHeartbeats 4000000
namespace My
open PySem PySem.Spec PyProof.Rows L2
/-! ### within a block: the frame named -/
section
variable {X : Cx} {K : PySem.W.Frag} {f : Str} {pos : Pos} {e : Expr} {ta : TE}
theorem pe_fK (hK : X.K = K) (he : PE X e ta) (hb : attributeBase e f X.env (eval e X.env) = eval e X.env := by rfl) : PE X (.Attribute e f pos) (tF K ta f) := by
  subst hK
  exact pe_f he hb
theorem ix_listK (hK : X.K = K) : IxR X (rIxL K) := by
  subst hK
  exact ix_list
theorem ix_tupK (hK : X.K = K) : IxR X (rIxT K) := by
  subst hK
  exact ix_tup
end
/-! ### a body that runs while a list is locked -/
theorem pss_lock {X : Cx} {b : List Stmt} {t : TS} (h : PSs X b t) : PSs X b (tLock t) := by
  refine ⟨fun pins s σ H D I hw => ?_⟩
  obtain ⟨d, u, hd, mu, hw⟩ := hw
  obtain ⟨od, I1⟩ := I.lock hd mu
  refine thn (h.run pins s σ _ _ I1 (hw od)) fun f s1 q => ?_
  cases f with
  | next => obtain ⟨σ', H', I2, e, q⟩ := q; exact ⟨σ', _, I2.unlock e (I.nofrz hd mu), q⟩
  | brk => obtain ⟨σ', H', I2, e, q⟩ := q; exact ⟨σ', _, I2.unlock e (I.nofrz hd mu), q⟩
  | cont => obtain ⟨σ', H', I2, e, q⟩ := q; exact ⟨σ', _, I2.unlock e (I.nofrz hd mu), q⟩
  | ret v => obtain ⟨x, σ', H', I2, r, e, q⟩ := q; exact ⟨x, σ', _, I2.unlock e (I.nofrz hd mu), r, q⟩
/-- the promise of a def that leaves a list alone -/
def lockSp (n : Nat) (sp : Sp) : Sp := fun vs H Q E => vs.length = n ∧ ∃ d xs, H d = some (.lst xs) ∧ ∀ od, sp vs (upd H d (.frz od (.lst xs))) (fun v H' => H' d = some (.frz od (.lst xs)) ∧ Q v (upd H' d (.lst xs))) E
/-! ### Scene(rule, starts, outages = .., length = ..) -/
structure MakS (P : Program) (w : World) (K : PySem.W.Frag) (mg : Str → Option Value) (base : Heap) (k : Nat) (sp : Sp) : Prop where
  ex : ∃ (f : Addr) (fd : FuncData) (ps : List Str) (g : List Value → List Value → List Value), Mk K (cS K) f ∧ FnOk P w K mg base CX0 k f fd ps sp ∧ mg "Scene" = some (.ref (cS K)) ∧ KBn K fd ps 3 [("outages" : Str), ("length" : Str)] g (fun vs zs => vs ++ zs)
theorem pe_mkS {X : Cx} {K : PySem.W.Frag} {k j : Nat} {sp : Sp} {p pos : Pos} {e : Expr} {es : List Expr} {kws : List Keyword} {t tk : TA} (c : MakS X.prog X.w X.K X.mg X.base k sp) (hr : Room j X.A) (hk : k + 1 ≤ j) (hg : Gl X "Scene") (ha : PA X (e :: es) t) (hkw : PK X kws tk)
    (hall : (backToKw pos (keywordEach kws X.env)).all (·.1.isSome) = true := by rfl) (hks : (backToKw pos (keywordEach kws X.env)).filterMap (·.1) = [("outages" : Str), ("length" : Str)] := by rfl)
    (he : starEach (e :: es) X.env = (false, eval e X.env) :: starEach es X.env := by rfl) (hpl : ((backTo pos (starEach (e :: es) X.env)).any (·.1) || (backToKw pos (keywordEach kws X.env)).any (·.1.isNone)) = false := by rfl) :
    PE X (.Call (.Name "Scene" p) (e :: es) kws pos) (tMakeK (cS X.K) 2 2 sp (fun vs zs => vs ++ zs) C8.E0 t tk) := by
  obtain ⟨f, fd, ps, g, M, F, hm, hb⟩ := c.ex
  exact pe_makeK (n := 2) (ks := [("outages" : Str), ("length" : Str)]) M F (hr.mono hk) hg hm hb pass0 ha hkw hall hks (by decide) he hpl
end My
/-! Rules: gaps, offsets, the first attempt from a distance on. Plain Lean. -/
set_option maxHeartbeats 1000000
namespace My
inductive Tl where
  | fin
  | tim (b : Nat)
  | rep (m : Nat)
  deriving DecidableEq
structure Ru where
  g : List Int
  t : Tl
def Ru.n (r : Ru) : Nat := r.g.length
def Ru.last (r : Ru) : Int := r.g.getD (r.n - 1) 1
structure Ru.Ok (r : Ru) : Prop where
  n1 : 1 ≤ r.n
  n4 : r.n ≤ 4
  gs : ∀ x ∈ r.g, 1 ≤ x ∧ x ≤ 30
  tb : ∀ b, r.t = .tim b → b = 2 ∨ b = 3
  tm : ∀ m, r.t = .rep m → 1 ≤ m ∧ m ≤ r.n
def Ru.gap (r : Ru) (k : Nat) : Int :=
  if k < r.n then r.g.getD k 1 else
  match r.t with
  | .fin => 1
  | .tim b => r.last * (b : Int) ^ (k - r.n + 1)
  | .rep m => r.g.getD (r.n - m + (k - r.n) % m) 1
def Ru.off (r : Ru) : Nat → Int
  | 0 => 0
  | k + 1 => r.off k + r.gap k
def Ru.has (r : Ru) (a : Nat) : Bool := decide (r.t = .fin → a ≤ r.n)
theorem Ru.Ok.at_ {r : Ru} (h : r.Ok) (k : Nat) : 1 ≤ r.g.getD k 1 ∧ r.g.getD k 1 ≤ 30 := by
  rw [List.getD_eq_getElem?_getD]
  cases e : r.g[k]? with
  | none => simp
  | some x => simpa using h.gs x (List.mem_of_getElem? e)
theorem Ru.gap_low {r : Ru} {k : Nat} (h : k < r.n) : r.gap k = r.g.getD k 1 := by unfold Ru.gap; rw [if_pos h]
theorem powI_pos {b : Nat} (hb : 1 ≤ b) (k : Nat) : 1 ≤ (b : Int) ^ k := by
  have h : 0 < (b : Int) ^ k := Int.pow_pos (by omega)
  omega
theorem Ru.gap_pos {r : Ru} (h : r.Ok) (k : Nat) : 1 ≤ r.gap k := by
  unfold Ru.gap
  split
  · exact (h.at_ k).1
  · split
    · omega
    · rename_i b e
      have h1 : 1 ≤ r.last := (h.at_ _).1
      have h2 : 1 ≤ (b : Int) ^ (k - r.n + 1) := powI_pos (by have := h.tb b e; omega) _
      have h3 : 0 < r.last * (b : Int) ^ (k - r.n + 1) := Int.mul_pos (by omega) (by omega)
      omega
    · exact (h.at_ _).1
theorem Ru.off_lt {r : Ru} (h : r.Ok) {a b : Nat} (hab : a < b) : r.off a < r.off b := by
  induction b with
  | zero => omega
  | succ b ih =>
    have g := r.gap_pos h b
    show r.off a < r.off b + r.gap b
    by_cases e : a = b
    · subst e; omega
    · have := ih (by omega); omega
theorem Ru.off_le {r : Ru} (h : r.Ok) {a b : Nat} (hab : a ≤ b) : r.off a ≤ r.off b := by
  rcases Nat.lt_or_eq_of_le hab with h1 | h1
  · exact Int.le_of_lt (Ru.off_lt h h1)
  · rw [h1]; exact Int.le_refl _
theorem Ru.off_inj {r : Ru} (h : r.Ok) {a b : Nat} (e : r.off a = r.off b) : a = b := by
  rcases Nat.lt_trichotomy a b with h1 | h1 | h1
  · have := Ru.off_lt h h1; omega
  · exact h1
  · have := Ru.off_lt h h1; omega
theorem Ru.off_ge {r : Ru} (h : r.Ok) (a : Nat) : (a : Int) ≤ r.off a := by
  induction a with
  | zero => exact Int.le_refl _
  | succ a ih =>
    have g := r.gap_pos h a
    show ((a + 1 : Nat) : Int) ≤ r.off a + r.gap a
    omega
theorem Ru.off_nn {r : Ru} (h : r.Ok) (a : Nat) : 0 ≤ r.off a := by have := r.off_ge h a; omega
theorem Ru.has_le {r : Ru} {a b : Nat} (h : r.has b = true) (hab : a ≤ b) : r.has a = true := by
  unfold Ru.has at *
  simp only [decide_eq_true_eq] at *
  intro e
  have := h e
  omega
theorem Ru.has_inf {r : Ru} (h : r.t ≠ .fin) (a : Nat) : r.has a = true := by
  unfold Ru.has
  simp [h]
theorem Ru.has_fin {r : Ru} (h : r.t = .fin) (a : Nat) : r.has a = decide (a ≤ r.n) := by
  unfold Ru.has
  simp [h]
/-! ### the formulas -/
theorem Ru.off_tim {r : Ru} {b : Nat} (e : r.t = .tim b) (k : Nat) : ((b : Int) - 1) * (r.off (r.n + k) - r.off r.n) = r.last * b * ((b : Int) ^ k - 1) := by
  induction k with
  | zero => simp
  | succ k ih =>
    have hg : r.gap (r.n + k) = r.last * (b : Int) ^ (k + 1) := by
      unfold Ru.gap
      rw [if_neg (by omega), e]
      show r.last * (b : Int) ^ (r.n + k - r.n + 1) = _
      rw [Nat.add_sub_cancel_left]
    show ((b : Int) - 1) * (r.off (r.n + k) + r.gap (r.n + k) - r.off r.n) = _
    rw [hg]
    have e1 : r.off (r.n + k) + r.last * (b : Int) ^ (k + 1) - r.off r.n = (r.off (r.n + k) - r.off r.n) + r.last * (b : Int) ^ (k + 1) := by omega
    rw [e1, Int.mul_add, ih]
    generalize r.last = l
    rw [Int.pow_succ]
    generalize (b : Int) ^ k = p
    generalize (b : Int) = c
    grind
theorem Ru.off_tim_div {r : Ru} (h : r.Ok) {b : Nat} (e : r.t = .tim b) (k : Nat) : r.off (r.n + k) = r.off r.n + r.last * b * ((b : Int) ^ k - 1) / ((b : Int) - 1) := by
  have h1 := r.off_tim e k
  have hb := h.tb b e
  rw [← h1, Int.mul_ediv_cancel_left _ (by omega)]
  omega
def Ru.per (r : Ru) (m : Nat) : Int := r.off r.n - r.off (r.n - m)
theorem Ru.off_rep {r : Ru} (h : r.Ok) {m : Nat} (e : r.t = .rep m) (k : Nat) : r.off (r.n + k) = r.off r.n + (k / m : Nat) * r.per m + (r.off (r.n - m + k % m) - r.off (r.n - m)) := by
  obtain ⟨hm1, hm2⟩ := h.tm m e
  induction k with
  | zero => simp
  | succ k ih =>
    have hlt : k % m < m := Nat.mod_lt _ (by omega)
    have hg : r.gap (r.n + k) = r.gap (r.n - m + k % m) := by
      rw [Ru.gap_low (k := r.n - m + k % m) (by omega)]
      unfold Ru.gap
      rw [if_neg (by omega), e]
      show r.g.getD (r.n - m + (r.n + k - r.n) % m) 1 = _
      rw [Nat.add_sub_cancel_left]
    have hs : r.off (r.n - m + (k % m + 1)) = r.off (r.n - m + k % m) + r.gap (r.n - m + k % m) := rfl
    show r.off (r.n + k) + r.gap (r.n + k) = _
    rw [ih, hg]
    by_cases hc : k % m + 1 < m
    · have e1 : (k + 1) % m = k % m + 1 := by
        have a0 : k + 1 = m * (k / m) + (k % m + 1) := by have := Nat.div_add_mod k m; omega
        rw [a0, Nat.mul_add_mod, Nat.mod_eq_of_lt hc]
      have e2 : (k + 1) / m = k / m := by
        have a1 := Nat.div_add_mod k m
        have a2 := Nat.div_add_mod (k + 1) m
        rw [e1] at a2
        have a3 : m * ((k + 1) / m) = m * (k / m) := by omega
        exact Nat.eq_of_mul_eq_mul_left (by omega) a3
      rw [e1, e2, hs]
      omega
    · have e0 : k % m + 1 = m := by omega
      have hd := Nat.div_add_mod k m
      have e3 : k + 1 = m * (k / m + 1) := by rw [Nat.mul_add, Nat.mul_one]; omega
      have e1 : (k + 1) % m = 0 := by rw [e3]; exact Nat.mul_mod_right _ _
      have e2 : (k + 1) / m = k / m + 1 := by rw [e3]; exact Nat.mul_div_cancel_left _ (by omega)
      rw [e0] at hs
      have e4 : r.n - m + m = r.n := by omega
      rw [e4] at hs
      rw [e1, e2]
      simp only [Nat.add_zero]
      have e5 : ((k / m + 1 : Nat) : Int) * r.per m = (k / m : Nat) * r.per m + r.per m := by
        rw [Int.natCast_add, Int.add_mul]
        simp
      rw [e5]
      unfold Ru.per at *
      omega
theorem Ru.off_low {r : Ru} (h : r.Ok) : ∀ {k : Nat}, k ≤ r.n → r.off k ≤ 30 * k
  | 0, _ => by show (0 : Int) ≤ _; omega
  | k + 1, hk => by
    have ih := Ru.off_low h (show k ≤ r.n by omega)
    have g := (h.at_ k).2
    show r.off k + r.gap k ≤ _
    rw [Ru.gap_low (by omega)]
    omega
theorem Ru.per_le {r : Ru} (h : r.Ok) {m : Nat} (e : r.t = .rep m) : 0 ≤ r.per m ∧ r.per m ≤ 120 := by
  unfold Ru.per
  have h1 := Ru.off_low h (Nat.le_refl r.n)
  have h2 := Ru.off_le h (show r.n - m ≤ r.n by omega)
  have h3 := r.off_nn h (r.n - m)
  have := h.n4
  omega
theorem Ru.per_pos {r : Ru} (h : r.Ok) {m : Nat} (e : r.t = .rep m) : 1 ≤ r.per m := by
  have := h.tm m e
  have h2 := Ru.off_lt h (show r.n - m < r.n by omega)
  unfold Ru.per
  omega
theorem Ru.off_big {r : Ru} (h : r.Ok) {b : Nat} (e : r.t = .tim b) : ∀ k : Nat, ((2 ^ k : Nat) : Int) ≤ r.off (r.n + k)
  | 0 => by
    have h1 := r.off_ge h (r.n + 0)
    have := h.n1
    simp only [Nat.pow_zero]
    omega
  | k + 1 => by
    have ih := Ru.off_big h e k
    have hb := h.tb b e
    have hl : 1 ≤ r.last := (h.at_ _).1
    show _ ≤ r.off (r.n + k) + r.gap (r.n + k)
    have hg : r.gap (r.n + k) = r.last * (b : Int) ^ (k + 1) := by
      unfold Ru.gap
      rw [if_neg (by omega), e]
      show r.last * (b : Int) ^ (r.n + k - r.n + 1) = _
      rw [Nat.add_sub_cancel_left]
    have h2 : ((2 ^ (k + 1) : Nat) : Int) ≤ ((b ^ (k + 1) : Nat) : Int) := Int.ofNat_le.mpr (Nat.pow_le_pow_left (by omega) _)
    have h6 : ((b ^ (k + 1) : Nat) : Int) = (b : Int) ^ (k + 1) := Int.natCast_pow _ _
    rw [h6] at h2
    have h7 : (0 : Int) ≤ ((2 ^ (k + 1) : Nat) : Int) := Int.natCast_nonneg _
    have h8 : (0 : Int) ≤ ((2 ^ k : Nat) : Int) := Int.natCast_nonneg _
    rw [hg]
    generalize ((2 ^ (k + 1) : Nat) : Int) = x at *
    generalize ((2 ^ k : Nat) : Int) = y at *
    generalize (b : Int) ^ (k + 1) = z at *
    have h5 : 1 * z ≤ r.last * z := Int.mul_le_mul_of_nonneg_right hl (by omega)
    omega
theorem Ru.lid {r : Ru} (h : r.Ok) {b : Nat} (e : r.t = .tim b) {d : Int} (hd : d ≤ 2 ^ 40) {a : Nat} (ha : ∀ k, k < a → r.off k < d) : a ≤ r.n + 41 := by
  rcases Nat.lt_or_ge (r.n + 41) a with q | q
  · exfalso
    have h1 := ha (r.n + 41) q
    have h2 := Ru.off_big h e 41
    have h3 : ((2 ^ 41 : Nat) : Int) = 2199023255552 := by decide
    omega
  · exact q
/-! ### the first attempt -/
def least (p : Nat → Bool) : Nat → Nat → Option Nat
  | 0, _ => none
  | f + 1, a => if p a = true then some a else least p f (a + 1)
theorem least_some {p : Nat → Bool} : ∀ {f a x : Nat}, least p f a = some x → a ≤ x ∧ x < a + f ∧ p x = true ∧ ∀ y, a ≤ y → y < x → p y = false
  | 0, a, x, h => by simp [least] at h
  | f + 1, a, x, h => by
    unfold least at h
    by_cases hp : p a = true
    · rw [if_pos hp] at h
      cases h
      exact ⟨Nat.le_refl _, by omega, hp, fun y h1 h2 => by omega⟩
    · rw [if_neg hp] at h
      obtain ⟨h1, h2, h3, h4⟩ := least_some h
      refine ⟨by omega, by omega, h3, fun y g1 g2 => ?_⟩
      by_cases e : y = a
      · rw [e]; simpa using hp
      · exact h4 y (by omega) g2
theorem least_none {p : Nat → Bool} : ∀ {f a : Nat}, least p f a = none → ∀ y, a ≤ y → y < a + f → p y = false
  | 0, a, _, y, h1, h2 => by omega
  | f + 1, a, h, y, h1, h2 => by
    unfold least at h
    by_cases hp : p a = true
    · rw [if_pos hp] at h; cases h
    · rw [if_neg hp] at h
      by_cases e : y = a
      · rw [e]; simpa using hp
      · exact least_none h y (by omega) (by omega)
def Ru.first (r : Ru) (d : Int) : Option Nat := least (fun a => r.has a && decide (d ≤ r.off a)) (r.n + d.toNat + 2) 0
theorem Ru.first_some {r : Ru} (h : r.Ok) {d : Int} {a : Nat} : r.first d = some a ↔ r.has a = true ∧ d ≤ r.off a ∧ ∀ a', a' < a → r.off a' < d := by
  constructor
  · intro e
    obtain ⟨_, h2, h3, h4⟩ := least_some e
    simp only [Bool.and_eq_true, decide_eq_true_eq] at h3
    refine ⟨h3.1, h3.2, fun a' ha' => ?_⟩
    have h5 := h4 a' (Nat.zero_le _) ha'
    have h6 : r.has a' = true := Ru.has_le h3.1 (by omega)
    rw [h6] at h5
    simp only [Bool.true_and, decide_eq_false_iff_not] at h5
    omega
  · rintro ⟨h1, h2, h3⟩
    have hb : a < r.n + d.toNat + 2 := by
      cases a with
      | zero => omega
      | succ a =>
        have g1 := h3 a (by omega)
        have g2 := r.off_ge h a
        omega
    cases e : r.first d with
    | none =>
      have := least_none e a (Nat.zero_le _) (by omega)
      rw [h1] at this
      simp only [Bool.true_and, decide_eq_false_iff_not] at this
      omega
    | some x =>
      obtain ⟨_, _, q3, q4⟩ := least_some e
      simp only [Bool.and_eq_true, decide_eq_true_eq] at q3
      rcases Nat.lt_trichotomy a x with g | g | g
      · have := q4 a (Nat.zero_le _) g
        rw [h1] at this
        simp only [Bool.true_and, decide_eq_false_iff_not] at this
        omega
      · rw [g]
      · have := h3 x g
        omega
theorem Ru.first_none {r : Ru} (h : r.Ok) {d : Int} : r.first d = none ↔ ∀ a, r.has a = true → r.off a < d := by
  constructor
  · intro e a ha
    rcases Int.lt_or_le (r.off a) d with g | g
    · exact g
    · exfalso
      -- the least such
      have key : ∀ n, r.has n = true → d ≤ r.off n → ∃ m, r.first d = some m := by
        intro n
        induction n with
        | zero => intro hn hd; exact ⟨0, (Ru.first_some h).mpr ⟨hn, hd, fun a' z => by omega⟩⟩
        | succ n ih =>
          intro hn hd
          rcases Int.lt_or_le (r.off n) d with q | q
          · refine ⟨n + 1, (Ru.first_some h).mpr ⟨hn, hd, fun a' z => ?_⟩⟩
            have := Ru.off_le h (show a' ≤ n by omega)
            omega
          · exact ih (Ru.has_le hn (by omega)) q
      obtain ⟨m, hm⟩ := key a ha g
      rw [e] at hm
      cases hm
  · intro q
    cases e : r.first d with
    | none => rfl
    | some x =>
      obtain ⟨h1, h2, _⟩ := (Ru.first_some h).mp e
      have := q x h1
      omega
def Ru.at (r : Ru) (d : Int) : Option Nat := match r.first d with
  | none => none
  | some a => if r.off a = d then some a else none
theorem Ru.at_some {r : Ru} (h : r.Ok) {d : Int} {a : Nat} : r.at d = some a ↔ r.has a = true ∧ r.off a = d := by
  unfold Ru.at
  constructor
  · intro e
    cases f : r.first d with
    | none => rw [f] at e; cases e
    | some x =>
      rw [f] at e
      obtain ⟨h1, h2, h3⟩ := (Ru.first_some h).mp f
      dsimp only at e
      split at e
      · cases e; exact ⟨h1, by assumption⟩
      · cases e
  · rintro ⟨h1, h2⟩
    have f : r.first d = some a := (Ru.first_some h).mpr ⟨h1, by omega, fun a' z => by have := Ru.off_lt h z; omega⟩
    rw [f]
    dsimp only
    rw [if_pos h2]
def Ru.hit (r : Ru) (d : Int) : Bool := (r.at d).isSome
theorem Ru.hit_iff {r : Ru} (h : r.Ok) {d : Int} : r.hit d = true ↔ ∃ a, r.has a = true ∧ r.off a = d := by
  unfold Ru.hit
  constructor
  · intro e
    obtain ⟨a, ha⟩ := Option.isSome_iff_exists.mp e
    exact ⟨a, (Ru.at_some h).mp ha⟩
  · rintro ⟨a, ha⟩
    rw [(Ru.at_some h).mpr ha]
    rfl
end My
set_option Elab.async false
set_option linter.all false
set_option maxRecDepth 100000
set_option maxHeartbeats 4000000
namespace My
open PySem PySem.Spec PyProof.Rows L2
section
variable {P : Program} {w : World} {K : PySem.W.Frag} {mg : Str → Option Value} {base : Heap}
def sp_is_integer (K : PySem.W.Frag) : Sp := fun vs H Q _ => ∃ i : Int, vs = [.int i] ∧ Q (.bl true) H
theorem sc_is_integer : FnScope ["value"] ["value"] (defScope s_is_integer) := ⟨rfl, rfl, rfl, by decide +kernel, rfl, by decide +kernel, by decide +kernel⟩
theorem ok_is_integer {f : Addr} {fd : FuncData} (F : FunD K "is_integer" "is_integer" (defArgs s_is_integer) (defBody s_is_integer) (defScope s_is_integer) [] [] f fd) (T : Txt K mg)  :
    FnOk P w K mg base CX0 1 f fd ["value"] (sp_is_integer K) := by
  refine F.ok sc_is_integer (fun vs H Q E h => ?_) (fun cdv A outer s H vs Q E hr h => ?_)
  · obtain ⟨_, rfl, _⟩ := h
    rfl
  · have hu := hu_of hr
    obtain ⟨i, rfl, k⟩ := h
    refine ⟨_, PSs.nox ((pss_one (ps_ret (pe_and (pe_callB call_isi (by rfl) T.f_isinstance (by decide +kernel) (pa_cons (pv 0) (pa_cons (pe_bltn (v := .ty "int") (by rfl) T.f_int (by decide +kernel) rfl) pa_nil))) (pe_one (pe_not (pe_callB call_isi (by rfl) T.f_isinstance (by decide +kernel) (pa_cons (pv 0) (pa_cons (pe_bltn (v := .ty "bool") (by rfl) T.f_bool (by decide +kernel) rfl) pa_nil))))))))), ?_⟩
    refine ⟨_, rfl, _, _, _, _, true, rfl, .ty _, .base (.int i), kit_ty (by decide +kernel), true, rfl, iteT ?_⟩
    exact ⟨_, rfl, _, _, _, _, false, rfl, .ty _, .base (.int i), kit_ty (by decide +kernel), false, rfl, k⟩
def sp_is_between (K : PySem.W.Frag) : Sp := fun vs H Q _ => ∃ i lo hi : Int, vs = [.int i, .int lo, .int hi] ∧ Q (.bl (decide (lo ≤ i) && decide (i ≤ hi))) H
theorem sc_is_between : FnScope ["value", "low", "high"] ["value", "low", "high"] (defScope s_is_between) := ⟨rfl, rfl, rfl, by decide +kernel, rfl, by decide +kernel, by decide +kernel⟩
theorem ok_is_between {f : Addr} {fd : FuncData} (F : FunD K "is_between" "is_between" (defArgs s_is_between) (defBody s_is_between) (defScope s_is_between) [] [] f fd) (T : Txt K mg) (c_is_integer : C8.Cal P w K mg base 1 "is_integer" (sp_is_integer K) []) :
    FnOk P w K mg base CX0 2 f fd ["value", "low", "high"] (sp_is_between K) := by
  refine F.ok sc_is_between (fun vs H Q E h => ?_) (fun cdv A outer s H vs Q E hr h => ?_)
  · obtain ⟨_, _, _, rfl, _⟩ := h
    rfl
  · have hu := hu_of hr
    obtain ⟨i, lo, hi, rfl, k⟩ := h
    refine ⟨_, PSs.nox ((pss_one (ps_ret (pe_and (C8.pe_c c_is_integer hr (by decide) (by rfl) (pa_cons (pv 0) pa_nil)) (pe_one (pe_chain op_le op_le (pv 1) (pv 0) (pv 2))))))), ?_⟩
    refine ⟨_, rfl, i, rfl, true, rfl, iteT ?_⟩
    refine ⟨_, rfl, _, rfl, _, _, rfl, rfl, _, rfl, ?_⟩
    cases e : decide (lo ≤ i) with
    | true =>
      refine iteT ⟨_, rfl, _, _, rfl, rfl, ?_⟩
      rw [e] at k
      exact k
    | false =>
      refine iteF ?_
      rw [e] at k
      exact k
end
end My
set_option Elab.async false
set_option linter.all false
set_option maxRecDepth 100000
set_option maxHeartbeats 4000000
namespace My
open PySem PySem.Spec PyProof.Rows L2
section
variable {P : Program} {w : World} {K : PySem.W.Frag} {mg : Str → Option Value} {base : Heap}
def sp_power (K : PySem.W.Frag) : Sp := fun vs H Q _ => ∃ b e : Nat, vs = [.int b, .int e] ∧ b ≤ 3 ∧ e ≤ 63 ∧ Q (.int ((b ^ e : Nat) : Int)) H
theorem pow_odd (r b e : Nat) (h : e % 2 = 1) : r * b * (b * b) ^ (e / 2) = r * b ^ e := by
  have h1 : e = e / 2 + e / 2 + 1 := by omega
  have h2 : b ^ e = b ^ (e / 2) * b ^ (e / 2) * b := by
    rw [← Nat.pow_add, ← Nat.pow_succ]
    exact congrArg (b ^ ·) h1
  rw [h2, Nat.mul_pow]
  grind
theorem pow_even (r b e : Nat) (h : e % 2 = 0) : r * (b * b) ^ (e / 2) = r * b ^ e := by
  have h1 : e = e / 2 + e / 2 := by omega
  have h2 : b ^ e = b ^ (e / 2) * b ^ (e / 2) := by rw [← Nat.pow_add, ← h1]
  rw [h2, Nat.mul_pow]
theorem pow_lid {b t e : Nat} (hb : b ≤ 3) (he : e ≤ 63) (h : 0 < e / 2 ^ t) : b ^ (2 ^ t) < 2 ^ 64 := by
  have h1 : 2 ^ t ≤ e := by
    rcases Nat.lt_or_ge e (2 ^ t) with q | q
    · rw [Nat.div_eq_of_lt q] at h; omega
    · exact q
  have h2 : t ≤ 5 := by
    rcases Nat.lt_or_ge 5 t with q | q
    · have : 2 ^ 6 ≤ 2 ^ t := Nat.pow_le_pow_right (by decide) q
      omega
    · exact q
  have h3 : 2 ^ t ≤ 32 := by
    have : 2 ^ t ≤ 2 ^ 5 := Nat.pow_le_pow_right (by decide) h2
    simpa using this
  have h4 : b ^ (2 ^ t) ≤ 3 ^ (2 ^ t) := Nat.pow_le_pow_left hb _
  have h5 : 3 ^ (2 ^ t) ≤ 3 ^ 32 := Nat.pow_le_pow_right (by decide) h3
  have h6 : (3 : Nat) ^ 32 < 2 ^ 64 := by decide
  omega
theorem sc_power : FnScope ["base", "exponent", "result"] ["base", "exponent"] (defScope s_power) := ⟨rfl, rfl, rfl, by decide +kernel, rfl, by decide +kernel, by decide +kernel⟩
theorem ok_power {f : Addr} {fd : FuncData} (F : FunD K "power" "power" (defArgs s_power) (defBody s_power) (defScope s_power) [] [] f fd) (T : Txt K mg)  :
    FnOk P w K mg base CX0 1 f fd ["base", "exponent"] (sp_power K) := by
  refine F.ok sc_power (fun vs H Q E h => ?_) (fun cdv A outer s H vs Q E hr h => ?_)
  · obtain ⟨_, _, rfl, _⟩ := h
    rfl
  · have hu := hu_of hr
    obtain ⟨b, e, rfl, hb, he, k⟩ := h
    refine ⟨_, PSs.nox ((pss_cons (ps_set (i := 2) sc_power.nd rfl (by first | exact Or.inl rfl | exact Or.inr rfl) pe_int)
      (pss_cons (ps_while PassesOwn.never (pt_cmpR op_gt (pv 1) pe_int (nomark _)) (pss_cons (ps_if (pt_cmpR op_eq (pe_op op_mod (pv 1) pe_int) pe_int (nomark _)) (pss_one (ps_set (i := 2) sc_power.nd rfl (by first | exact Or.inl rfl | exact Or.inr rfl) (pe_op op_mul (pv 2) (pv 0)))) pss_nil)
      (pss_cons (ps_set (i := 0) sc_power.nd rfl (by first | exact Or.inl rfl | exact Or.inr rfl) (pe_op op_mul (pv 0) (pv 0)))
      (pss_one (ps_set (i := 1) sc_power.nd rfl (by first | exact Or.inl rfl | exact Or.inr rfl) (pe_op op_fdiv (pv 1) pe_int))))))
      (pss_one (ps_ret (pv 2)))))), ?_⟩
    refine ⟨fun m σ' H' => ∃ t r : Nat, σ' = [some (.int ((b ^ (2 ^ t) : Nat) : Int)), some (.int ((e / 2 ^ t : Nat) : Int)), some (.int (r : Int))] ∧ H = H' ∧ r * (b ^ (2 ^ t)) ^ (e / 2 ^ t) = b ^ e ∧ m = e / 2 ^ t,
      ⟨e / 2 ^ 0, 0, 1, by show [some (V.int (b : Int)), some (V.int (e : Int)), some (V.int 1)] = _; simp, rfl, by simp, rfl⟩, ?_⟩
    rintro m σ' H' ⟨t, r, rfl, rfl, hr2, rfl⟩
    refine ⟨_, rfl, _, _, rfl, rfl, _, rfl, ?_⟩
    refine ite2 (fun hc => ?_) (fun hc => ?_)
    · have hpos : 0 < e / 2 ^ t := by
        have := of_decide_eq_true hc
        omega
      have hlid := pow_lid hb he hpos
      have hl2 : (b ^ (2 ^ t) : Int) < 2 ^ 64 := by exact_mod_cast hlid
      have hnn : -(2 ^ 64 : Int) < ((b ^ (2 ^ t) : Nat) : Int) := by omega
      have hsq : b ^ (2 ^ t) * b ^ (2 ^ t) = b ^ (2 ^ (t + 1)) := by rw [← Nat.pow_add, Nat.pow_succ, Nat.mul_two]
      have hdv : e / 2 ^ (t + 1) = e / 2 ^ t / 2 := by rw [Nat.pow_succ, Nat.div_div_eq_div_mul]
      refine ⟨fun σ2 H2 => ∃ r' : Nat, σ2 = [some (.int ((b ^ (2 ^ (t + 1)) : Nat) : Int)), some (.int ((e / 2 ^ (t + 1) : Nat) : Int)), some (.int (r' : Int))] ∧ H = H2 ∧ r' * (b ^ (2 ^ (t + 1))) ^ (e / 2 ^ (t + 1)) = b ^ e,
        fun σ2 H2 ⟨r', h1, h2, h3⟩ => ⟨e / 2 ^ (t + 1), by rw [hdv]; omega, t + 1, r', h1, h2, h3, rfl⟩, ?_⟩
      refine ⟨_, rfl, _, _, rfl, rfl, (by show (0 : Int) < 2; decide), rfl, _, rfl, ?_⟩
      have fin : ∀ r' : Nat, r' * (b ^ (2 ^ t) * b ^ (2 ^ t)) ^ (e / 2 ^ t / 2) = b ^ e → ∃ r'' : Nat, ([some (.int (((b ^ (2 ^ t) : Nat) : Int) * ((b ^ (2 ^ t) : Nat) : Int))), some (.int (((e / 2 ^ t : Nat) : Int) / 2)), some (.int (r' : Int))] : L2.St) = [some (.int ((b ^ (2 ^ (t + 1)) : Nat) : Int)), some (.int ((e / 2 ^ (t + 1) : Nat) : Int)), some (.int (r'' : Int))] ∧ H = H ∧ r'' * (b ^ (2 ^ (t + 1))) ^ (e / 2 ^ (t + 1)) = b ^ e := fun r' h => by
        refine ⟨r', ?_, rfl, ?_⟩
        · rw [← Int.natCast_mul, hsq, hdv]
          rfl
        · rw [← hsq, hdv]
          exact h
      refine ite2 (fun hp => ?_) (fun hp => ?_)
      · have hodd : e / 2 ^ t % 2 = 1 := by
          have h1 := of_decide_eq_true hp
          injection h1 with h1
          omega
        refine ⟨_, rfl, _, rfl, _, _, rfl, rfl, .inr ⟨hnn, hl2⟩, _, rfl, _, rfl, _, _, rfl, rfl, .inr ⟨hnn, hl2⟩, _, rfl, _, _, rfl, rfl, ⟨by decide, by decide⟩, ?_⟩
        refine fin (r * b ^ (2 ^ t)) ?_
        rw [pow_odd _ _ _ hodd, hr2]
      · have heven : e / 2 ^ t % 2 = 0 := by
          rcases Nat.mod_two_eq_zero_or_one (e / 2 ^ t) with q | q
          · exact q
          · exact absurd (decide_eq_true (congrArg V.int (show ((e / 2 ^ t : Nat) : Int) % 2 = 1 by exact_mod_cast q))) hp
        refine ⟨_, rfl, _, rfl, _, _, rfl, rfl, .inr ⟨hnn, hl2⟩, _, rfl, _, _, rfl, rfl, ⟨by decide, by decide⟩, ?_⟩
        refine fin r ?_
        rw [pow_even _ _ _ heven, hr2]
    · have hz : e / 2 ^ t = 0 := Nat.eq_zero_of_not_pos (fun q => hc (decide_eq_true (Int.natCast_pos.mpr q)))
      rw [hz, Nat.pow_zero, Nat.mul_one] at hr2
      refine ⟨_, rfl, ?_⟩
      rw [hr2]
      exact k
end
end My
set_option Elab.async false
set_option linter.all false
set_option maxRecDepth 100000
set_option maxHeartbeats 4000000
namespace My
open PySem PySem.Spec PyProof.Rows L2
section
variable {P : Program} {w : World} {K : PySem.W.Frag} {mg : Str → Option Value} {base : Heap}
/-! ### a rule in the heap -/
def Tl.vs : Tl → List V
  | .fin => [.str "end"]
  | .tim b => [.str "times", .int b]
  | .rep m => [.str "repeat", .int m]
def Tl.wd : Tl → V
  | .fin => .str "end"
  | .tim _ => .str "times"
  | .rep _ => .str "repeat"
theorem tl_at0 (t : Tl) : atI t.vs 0 = some t.wd := by cases t <;> rfl
theorem tl_flat (t : Tl) (x : Str) : scal t.wd (.str x) = true := by cases t <;> rfl
theorem tl_end (t : Tl) : decide (t.wd = V.str "end") = decide (t = .fin) := by
  cases t with
  | fin => exact (decide_eq_true rfl).trans (decide_eq_true rfl).symm
  | tim b => exact (decide_eq_false (show ¬ (V.str "times" = V.str "end") by decide +kernel)).trans (decide_eq_false (fun e => by cases e)).symm
  | rep m => exact (decide_eq_false (show ¬ (V.str "repeat" = V.str "end") by decide +kernel)).trans (decide_eq_false (fun e => by cases e)).symm
def Tl.isT : Tl → Bool
  | .tim _ => true
  | _ => false
def Tl.isR : Tl → Bool
  | .rep _ => true
  | _ => false
theorem tl_times (t : Tl) : decide (t.wd = V.str "times") = t.isT := by
  cases t with
  | fin => exact decide_eq_false (show ¬ (V.str "end" = V.str "times") by decide +kernel)
  | tim b => exact decide_eq_true rfl
  | rep m => exact decide_eq_false (show ¬ (V.str "repeat" = V.str "times") by decide +kernel)
theorem tl_repeat (t : Tl) : decide (t.wd = V.str "repeat") = t.isR := by
  cases t with
  | fin => exact decide_eq_false (show ¬ (V.str "end" = V.str "repeat") by decide +kernel)
  | tim b => exact decide_eq_false (show ¬ (V.str "times" = V.str "repeat") by decide +kernel)
  | rep m => exact decide_eq_true rfl
def Ru.sums (R : Ru) : List Int := (List.range (R.n + 1)).map R.off
theorem sums_len (R : Ru) : R.sums.length = R.n + 1 := by unfold Ru.sums; rw [List.length_map, List.length_range]
theorem sums_at {R : Ru} {k : Nat} (h : k ≤ R.n) : (R.sums.map V.int)[k]? = some (.int (R.off k)) := by
  unfold Ru.sums
  rw [List.getElem?_map, List.getElem?_map, List.getElem?_range (by omega)]
  rfl
theorem atI_neg1 {α : Type} {xs : List α} {n : Nat} {v : α} (hl : xs.length = n + 1) (h : xs[n]? = some v) : atI xs (-1) = some v := by
  obtain ⟨ys, z, e⟩ : ∃ ys z, xs = ys ++ [z] := by
    rcases List.eq_nil_or_concat xs with e | ⟨ys, z, e⟩
    · rw [e] at hl; cases hl
    · exact ⟨ys, z, by rw [e, List.concat_eq_append]⟩
  subst e
  rw [List.length_append, List.length_singleton] at hl
  have e2 : ys.length = n := by omega
  rw [List.getElem?_append_right (by omega), e2, Nat.sub_self] at h
  have e3 : z = v := Option.some.inj h
  subst e3
  exact atI_last ys z
theorem atI_n {α : Type} {xs : List α} {i : Int} {j : Nat} {v : α} (e : i = (j : Int)) (h : xs[j]? = some v) : atI xs i = some v := by rw [e]; exact atI_nat h
def rfs (l t s : Addr) : List (Str × V) := putF "sums" (.ref s) (putF "ending" (.ref t) (putF "listed" (.ref l) []))
theorem rfs_listed (l t s : Addr) : (rfs l t s).lookup ("listed" : Str) = some (.ref l) := by kernel_rfl
theorem rfs_ending (l t s : Addr) : (rfs l t s).lookup ("ending" : Str) = some (.ref t) := by kernel_rfl
theorem rfs_sums (l t s : Addr) : (rfs l t s).lookup ("sums" : Str) = some (.ref s) := by kernel_rfl
structure RuleAt (K : PySem.W.Frag) (H : Hp) (p : Addr) (R : Ru) : Prop where
  ok : R.Ok
  ex : ∃ dx l t s, H p = some (.ins (cR K) dx (rfs l t s)) ∧ H l = some (.lst (R.g.map V.int)) ∧ H t = some (.tup R.t.vs) ∧ H s = some (.lst (R.sums.map V.int))
theorem RuleAt.mono {H H' : Hp} {p : Addr} {R : Ru} (e : Same H H') (h : RuleAt K H p R) : RuleAt K H' p R := by
  obtain ⟨dx, l, t, s, h1, h2, h3, h4⟩ := h.ex
  exact ⟨h.ok, dx, l, t, s, e _ _ h1, e _ _ h2, e _ _ h3, e _ _ h4⟩
theorem RuleAt.open {H : Hp} {p : Addr} {R : Ru} (T : Txt K mg) (h : RuleAt K H p R) : ∃ l t s, Fd K H (.ref p) "listed" (.ref l) ∧ Fd K H (.ref p) "ending" (.ref t) ∧ Fd K H (.ref p) "sums" (.ref s) ∧
    H l = some (.lst (R.g.map V.int)) ∧ H t = some (.tup R.t.vs) ∧ H s = some (.lst (R.sums.map V.int)) := by
  obtain ⟨dx, l, t, s, h1, h2, h3, h4⟩ := h.ex
  exact ⟨l, t, s, ⟨p, _, dx, _, rfl, h1, T.clR, T.nR_listed, rfs_listed l t s⟩, ⟨p, _, dx, _, rfl, h1, T.clR, T.nR_ending, rfs_ending l t s⟩, ⟨p, _, dx, _, rfl, h1, T.clR, T.nR_sums, rfs_sums l t s⟩, h2, h3, h4⟩
theorem RuleAt.md {H : Hp} {p : Addr} {R : Ru} {m : Str} (h : RuleAt K H p R) (hm : ∀ l t s, (rfs l t s).lookup m = none) : Md H (.ref p) (cR K) m := by
  obtain ⟨dx, l, t, s, h1, _⟩ := h.ex
  exact ⟨p, dx, _, rfl, h1, hm l t s⟩
theorem mR_attempts (l t s : Addr) : (rfs l t s).lookup ("attempts" : Str) = none := by kernel_rfl
theorem mR_offset_of (l t s : Addr) : (rfs l t s).lookup ("offset_of" : Str) = none := by kernel_rfl
theorem mR_period (l t s : Addr) : (rfs l t s).lookup ("period" : Str) = none := by kernel_rfl
theorem mR_first_from (l t s : Addr) : (rfs l t s).lookup ("first_from" : Str) = none := by kernel_rfl
theorem mR_attempt_at (l t s : Addr) : (rfs l t s).lookup ("attempt_at" : Str) = none := by kernel_rfl
theorem mR_gaps (l t s : Addr) : (rfs l t s).lookup ("gaps" : Str) = none := by kernel_rfl
theorem mR_tail (l t s : Addr) : (rfs l t s).lookup ("tail" : Str) = none := by kernel_rfl
def optV : Option Nat → V
  | none => .non
  | some a => .int a
def sp_is_tail (K : PySem.W.Frag) : Sp := fun vs H Q _ => ∃ (t : Addr) (R : Ru), vs = [.ref t, .int R.n] ∧ H t = some (.tup R.t.vs) ∧ R.Ok ∧ Q (.bl true) H
theorem sc_is_tail : FnScope ["tail", "gap_count"] ["tail", "gap_count"] (defScope s_is_tail) := ⟨rfl, rfl, rfl, by decide +kernel, rfl, by decide +kernel, by decide +kernel⟩
theorem ok_is_tail {f : Addr} {fd : FuncData} (F : FunD K "is_tail" "is_tail" (defArgs s_is_tail) (defBody s_is_tail) (defScope s_is_tail) [] [] f fd) (T : Txt K mg) (c_is_between : C8.Cal P w K mg base 2 "is_between" (sp_is_between K) []) :
    FnOk P w K mg base CX0 3 f fd ["tail", "gap_count"] (sp_is_tail K) := by
  refine F.ok sc_is_tail (fun vs H Q E h => ?_) (fun cdv A outer s H vs Q E hr h => ?_)
  · obtain ⟨_, _, rfl, _⟩ := h
    rfl
  · have hu := hu_of hr
    obtain ⟨t, R, rfl, ht, ok, k⟩ := h
    refine ⟨_, PSs.nox ((pss_cons (ps_if (PW.pt (pw_or (pt_not (pt_val (pe_callB call_isi (by rfl) T.f_isinstance (by decide +kernel) (pa_cons (pv 0) (pa_cons (pe_bltn (v := .ty "tuple") (by rfl) T.f_tuple (by decide +kernel) rfl) pa_nil))))) (pw_or (pt_cmpR op_eq (pe_callB call_len_seq (by rfl) T.f_len (by decide +kernel) (pa_cons (pv 0) pa_nil)) pe_int (nomark _)) (pw_or1 (pt_not (pt_val (pe_callB call_isi (by rfl) T.f_isinstance (by decide +kernel) (pa_cons (pe_ix ix_tup (pv 0) pe_int (fun _ _ => rfl)) (pa_cons (pe_bltn (v := .ty "str") (by rfl) T.f_str (by decide +kernel) rfl) pa_nil))))))))) (pss_one (ps_ret pe_bl)) pss_nil)
      (pss_cons (ps_if (pt_cmpR op_eq (pe_ix ix_tup (pv 0) pe_int (fun _ _ => rfl)) pe_str (nomark _)) (pss_one (ps_ret (pe_cmpR op_eq (pe_callB call_len_seq (by rfl) T.f_len (by decide +kernel) (pa_cons (pv 0) pa_nil)) pe_int (nomark _)))) pss_nil)
      (pss_cons (ps_if (PW.pt (pw_or (pt_cmpR op_ne (pe_callB call_len_seq (by rfl) T.f_len (by decide +kernel) (pa_cons (pv 0) pa_nil)) pe_int (nomark _)) (pw_or1 (pt_cmpR op_eq (pv 1) pe_int (nomark _))))) (pss_one (ps_ret pe_bl)) pss_nil)
      (pss_cons (ps_if (pt_cmpR op_eq (pe_ix ix_tup (pv 0) pe_int (fun _ _ => rfl)) pe_str (nomark _)) (pss_one (ps_ret (C8.pe_c c_is_between hr (by decide) (by rfl) (pa_cons (pe_ix ix_tup (pv 0) pe_int (fun _ _ => rfl)) (pa_cons pe_int (pa_cons (C8.pe_gc rfl T.i_MOST_FACTOR) pa_nil)))))) pss_nil)
      (pss_one (ps_ret (pe_and (pe_cmpR op_eq (pe_ix ix_tup (pv 0) pe_int (fun _ _ => rfl)) pe_str (nomark _)) (pe_one (C8.pe_c c_is_between hr (by decide) (by rfl) (pa_cons (pe_ix ix_tup (pv 0) pe_int (fun _ _ => rfl)) (pa_cons pe_int (pa_cons (pv 1) pa_nil))))))))))))), ?_⟩
    have hl : R.t.vs.length = 1 ∨ R.t.vs.length = 2 := by cases R.t <;> simp [Tl.vs]
    -- isinstance(tail, tuple); len(tail) == 0; isinstance(tail[0], str)
    refine ⟨_, rfl, _, _, _, _, true, rfl, .ty _, .base (.tup ht), kit_ty (by decide +kernel), true, rfl, iteF ?_⟩
    refine ⟨_, rfl, t, _, rfl, .inr (SqT.of ht), rfl, false, ?_, iteF ?_⟩
    · rcases hl with e | e
      · rw [e]; rfl
      · rw [e]; rfl
    have hstr : ∃ x, R.t.wd = .str x := by cases R.t <;> exact ⟨_, rfl⟩
    obtain ⟨x0, hx0⟩ := hstr
    refine ⟨_, rfl, t, _, _, _, rfl, rfl, SqT.of ht, tl_at0 _, _, _, .type "str", _, true, rfl, .ty _, .base (by rw [hx0]; exact .str x0), kit_ty (by decide +kernel), true, rfl, iteF ?_⟩
    -- tail[0] == 'end'
    refine ⟨_, rfl, t, _, _, _, rfl, rfl, SqT.of ht, tl_at0 _, tl_flat _ _, _, rfl, ?_⟩
    rw [tl_end]
    refine ite2 (fun hc => ?_) (fun hc => ?_)
    · have e := of_decide_eq_true hc
      refine ⟨_, rfl, t, _, rfl, .inr (SqT.of ht), rfl, ?_⟩
      rw [e]
      exact k
    have h2 : R.t.vs.length = 2 := by
      cases e : R.t with
      | fin => exact absurd (decide_eq_true e) hc
      | _ => rfl
    refine ⟨_, rfl, t, _, rfl, .inr (SqT.of ht), rfl, false, by rw [h2]; rfl, iteF ?_⟩
    refine ⟨_, rfl, rfl, false, congrArg V.bl (decide_eq_false fun e => by injection e with e; have := ok.n1; omega), iteF ?_⟩
    refine ⟨_, rfl, t, _, _, _, rfl, rfl, SqT.of ht, tl_at0 _, tl_flat _ _, _, rfl, ?_⟩
    rw [tl_times]
    refine ite2 (fun hb => ?_) (fun hb => ?_)
    · cases e : R.t with
      | tim b =>
        rw [e] at ht
        have hb2 := ok.tb b e
        refine ⟨_, rfl, t, _, _, _, rfl, rfl, SqT.of ht, rfl, b, _, _, rfl, ?_⟩
        rw [decide_eq_true (show (2 : Int) ≤ b by omega), decide_eq_true (show (b : Int) ≤ 1000 by omega)]
        exact k
      | fin => rw [e] at hb; cases hb
      | rep m => rw [e] at hb; cases hb
    · cases e : R.t with
      | rep m =>
        rw [e] at ht
        have hm := ok.tm m e
        refine ⟨_, rfl, t, _, _, _, rfl, rfl, SqT.of ht, rfl, rfl, true, rfl, iteT ?_⟩
        refine ⟨_, rfl, t, _, _, _, rfl, rfl, SqT.of ht, rfl, _, rfl, m, _, _, rfl, ?_⟩
        rw [decide_eq_true (show (1 : Int) ≤ m by omega), decide_eq_true (show (m : Int) ≤ R.n by omega)]
        exact k
      | fin => exact absurd (decide_eq_true e) hc
      | tim b => rw [e] at hb; exact absurd rfl hb
end
end My
set_option Elab.async false
set_option linter.all false
set_option maxRecDepth 100000
set_option maxHeartbeats 4000000
namespace My
open PySem PySem.Spec PyProof.Rows L2
section
variable {P : Program} {w : World} {K : PySem.W.Frag} {mg : Str → Option Value} {base : Heap}
def sp_Rule_init (K : PySem.W.Frag) : Sp := fun vs H Q _ => ∃ (p dx a t : Addr) (R : Ru), vs = [.ref p, .ref a, .ref t] ∧ H p = some (.ins (cR K) dx []) ∧ H a = some (.lst (R.g.map V.int)) ∧ H t = some (.tup R.t.vs) ∧ R.Ok ∧
  ∀ H', (∀ b o, H b = some o → b ≠ p → H' b = some o) → RuleAt K H' p R → Q .non H'
theorem all_true : ∀ {bs : List Bool}, (∀ b ∈ bs, b = true) → bs.all id = true
  | [], _ => rfl
  | b :: bs, h => by
    rw [List.all_cons, all_true fun c hc => h c (List.mem_cons_of_mem _ hc), h b (List.mem_cons_self ..)]
    rfl
theorem map_true (n : Nat) (keep : Nat → Bool) : (((List.range n).filter keep).map fun _ => true).all id = true := all_true fun b hb => by
  obtain ⟨_, _, e⟩ := List.mem_map.mp hb
  exact e.symm
theorem map_bl (is : List Nat) (f : Nat → Bool) : is.map (fun i => V.bl (f i)) = (is.map f).map V.bl := by rw [List.map_map]; rfl
theorem range_off (R : Ru) (i : Nat) : (List.range (i + 1)).map (fun k => V.int (R.off k)) = (List.range i).map (fun k => V.int (R.off k)) ++ [.int (R.off i)] := by rw [List.range_succ, List.map_append]; rfl
theorem sc_Rule_init : FnScope ["self", "gaps", "tail", "gap"] ["self", "gaps", "tail"] (defScope s_Rule_init) := ⟨rfl, rfl, rfl, by decide +kernel, rfl, by decide +kernel, by decide +kernel⟩
theorem ok_Rule_init {f : Addr} {fd : FuncData} (F : FunD K "__init__" "Rule.__init__" (defArgs s_Rule_init) (defBody s_Rule_init) (defScope s_Rule_init) [] [] f fd) (T : Txt K mg) (c_is_between : C8.Cal P w K mg base 2 "is_between" (sp_is_between K) []) (c_is_tail : C8.Cal P w K mg base 3 "is_tail" (sp_is_tail K) []) :
    FnOk P w K mg base CX0 4 f fd ["self", "gaps", "tail"] (sp_Rule_init K) := by
  refine F.ok sc_Rule_init (fun vs H Q E h => ?_) (fun cdv A outer s H vs Q E hr h => ?_)
  · obtain ⟨_, _, _, _, _, rfl, _⟩ := h
    rfl
  · have hu := hu_of hr
    obtain ⟨p, dx, a, t, R, rfl, hp, ha, ht, ok, k⟩ := h
    refine ⟨_, PSs.nox ((pss_cons (ps_if (PW.pt (pw_or (pt_not (pt_val (pe_callB call_isi (by rfl) T.f_isinstance (by decide +kernel) (pa_cons (pv 1) (pa_cons (pe_bltn (v := .ty "list") (by rfl) T.f_list (by decide +kernel) rfl) pa_nil))))) (pw_or1 (pt_cmpR op_gt (pe_callB call_len_seq (by rfl) T.f_len (by decide +kernel) (pa_cons (pv 1) pa_nil)) (C8.pe_gc rfl T.i_MOST_GAPS) (nomark _))))) (pss_one ps_never) pss_nil)
      (pss_cons (ps_if (pt_not (pt_val (pe_callB (cr_all rfl) (by rfl) T.f_all (by decide +kernel) (pa_cons (pe_lc (own := [("gap", 3)]) (g := (gName 3)) (tt := tYes) rfl sc_Rule_init.nd (pi_list (pv 1)) (blkOk_by (own := [("gap", 3)]) (N := ["self", "gaps", "tail", "gap"]) (sc := defScope s_Rule_init) (by decide +kernel)) (fun _ _ _ _ _ => (pg_name (i := 3) sc_Rule_init.nd rfl (by first | exact Or.inl rfl | exact Or.inr rfl))) (fun _ _ _ _ _ => pts_nil) (fun _ _ _ _ _ => (C8.pe_c c_is_between hr (by decide) (by rfl) (pa_cons (pv 3) (pa_cons pe_int (pa_cons (C8.pe_gc rfl T.i_MOST_GAP) pa_nil)))))) pa_nil)))) (pss_one ps_never) pss_nil)
      (pss_cons (ps_if (pt_not (pt_val (C8.pe_c c_is_tail hr (by decide) (by rfl) (pa_cons (pv 2) (pa_cons (pe_callB call_len_seq (by rfl) T.f_len (by decide +kernel) (pa_cons (pv 1) pa_nil)) pa_nil))))) (pss_one ps_never) pss_nil)
      (pss_cons (ps_fld (pv 0) (pe_callTy call_list_of (by rfl) T.f_list (by decide +kernel) (pa_cons (pv 1) pa_nil)) rfl)
      (pss_cons (ps_fld (pv 0) (pv 2) rfl)
      (pss_cons (ps_fld (pv 0) (pe_lst (pa_cons pe_int pa_nil)) rfl)
      (pss_one (ps_for PassesOwn.never rfl (pi_list (pv 1)) (pg_name (i := 3) sc_Rule_init.nd rfl (by first | exact Or.inl rfl | exact Or.inr rfl)) (pss_one (ps_expr (pe_bm PySem.F.plainAttrs_list PySem.F.slot_list_append PySem.F.type_list_append mt_append (pe_f (pv 0)) (pa_cons (pe_op op_add (pe_ix ix_list (pe_f (pv 0)) (pe_un un_neg pe_int) (fun _ _ => rfl)) (pv 3)) pa_nil))))))))))))), ?_⟩
    have hg1 : (R.g.map V.int).length = R.n := by rw [List.length_map]; rfl
    have n4 := ok.n4
    have n1 := ok.n1
    -- isinstance(gaps, list); len(gaps) > MOST_GAPS
    refine ⟨_, rfl, _, _, _, _, true, rfl, .ty _, .base (.lst ha), kit_ty (by decide +kernel), true, rfl, iteF ?_⟩
    refine ⟨_, rfl, a, _, rfl, .inl (SqL.of ha), _, _, rfl, rfl, false, congrArg V.bl (decide_eq_false (by omega)), iteF ?_⟩
    -- all([is_between(gap, 1, MOST_GAP) for gap in gaps])
    refine ⟨_, rfl, a, rfl, ⟨_, SqL.of ha⟩, fun D hD => lc_pure (walk_list (K := K) (a := a) (xs := R.g.map V.int)) (fun _ => true) (fun _ y _ => y = .bl true) (fun _ _ _ _ _ h => h) hD (by omega) (fun H1 e => e.seq (SqL.of ha)) ?_ ?_⟩
    · rintro i x H1 H2 Ky Kn hi s1 ⟨rfl, hx⟩ hy _
      rw [List.getElem?_map] at hx
      obtain ⟨z, hz, rfl⟩ := Option.map_eq_some_iff.mp hx
      have hz2 := ok.gs z (List.mem_of_getElem? hz)
      refine ⟨rfl, yes_te ⟨_, rfl, z, _, _, rfl, ?_⟩⟩
      rw [decide_eq_true (show (1 : Int) ≤ z by omega), decide_eq_true (show z ≤ 1000000000000 by omega)]
      exact hy rfl _ _ rfl (Same.refl _)
    intro H1 acc s1 hD1 hm
    have hacc := Made.fn (H := H1) (f := fun _ => V.bl true) hm
    rw [map_bl] at hacc
    refine ⟨D, _, rfl, by rw [← hacc]; exact SqL.of hD1, true, congrArg V.bl (map_true _ _), iteF ?_⟩
    -- is_tail(tail, len(gaps))
    refine ⟨_, rfl, _, rfl, a, _, rfl, .inl (SqL.of (s1 _ _ ha)), t, R, by rw [hg1]; rfl, s1 _ _ ht, ok, true, rfl, iteF ?_⟩
    -- self.listed = list(gaps)
    refine ⟨_, rfl, a, _, rfl, .inl (SqL.of (s1 _ _ ha)), fun l hl => ?_⟩
    have hp1 := s1 _ _ hp
    have npl : p ≠ l := ne_of_none hp1 hl
    refine ⟨_, rfl, p, _, dx, [], rfl, (by rw [upd_ne npl]; exact hp1), T.clR, T.nR_listed, (by show 0 < 1000; decide), ?_⟩
    -- self.ending = tail
    refine ⟨_, rfl, _, rfl, p, _, dx, _, rfl, upd_same, T.clR, T.nR_ending, (by show 1 < 1000; decide), ?_⟩
    -- self.sums = [0]
    refine ⟨by show 1 ≤ sizeLine; decide, fun s hs => ?_⟩
    have hs1 : H1 s = none ∧ s ≠ p ∧ s ≠ l := by
      by_cases e1 : s = p
      · rw [e1, upd_same] at hs; cases hs
      · rw [upd_ne e1, upd_ne e1] at hs
        by_cases e2 : s = l
        · rw [e2, upd_same] at hs; cases hs
        · rw [upd_ne e2] at hs
          exact ⟨hs, e1, e2⟩
    obtain ⟨hs0, nsp, nsl⟩ := hs1
    refine ⟨_, rfl, p, _, dx, _, rfl, (by rw [upd_ne nsp.symm]; exact upd_same), T.clR, T.nR_sums, (by show 2 < 1000; decide), ?_⟩
    -- for gap in gaps: self.sums.append(self.sums[-1] + gap)
    have nap : a ≠ p := ne_of ha hp (by intro z; cases z)
    have ntp : t ≠ p := ne_of ht hp (by intro z; cases z)
    refine ⟨_, rfl, a, rfl, ⟨R.g.map V.int, ?_⟩, for_list (K := K) (a := a) (xs := R.g.map V.int) (fun i σ' H' => ∃ v : Option V, σ' = [some (.ref p), some (.ref a), some (.ref t), v] ∧
      (∀ b o, H1 b = some o → b ≠ p → H' b = some o) ∧ H' p = some (.ins (cR K) dx (rfs l t s)) ∧ H' l = some (.lst (R.g.map V.int)) ∧ H' s = some (.lst ((List.range (i + 1)).map fun k => V.int (R.off k)))) ?_ ?_ ?_ ?_⟩
    · refine SqL.of ?_
      rw [upd_ne nap, upd_ne (ne_of_none (s1 _ _ ha) hs0), upd_ne nap, upd_ne nap, upd_ne (ne_of_none (s1 _ _ ha) hl)]
      exact s1 _ _ ha
    · refine ⟨none, rfl, fun b o hb nb => ?_, upd_same, ?_, ?_⟩
      · rw [upd_ne nb, upd_ne (ne_of_none hb hs0), upd_ne nb, upd_ne nb, upd_ne (ne_of_none hb hl)]
        exact hb
      · rw [upd_ne npl.symm, upd_ne nsl.symm, upd_ne npl.symm, upd_ne npl.symm, upd_same]
      · rw [upd_ne nsp, upd_same]
        rfl
    · rintro i σ' H' _ ⟨v, rfl, kp, _⟩
      exact SqL.of (kp _ _ (s1 _ _ ha) nap)
    · rintro i x σ' H' hx ⟨v, rfl, kp, h1, h2, h3⟩
      rw [List.getElem?_map] at hx
      obtain ⟨z, hz, rfl⟩ := Option.map_eq_some_iff.mp hx
      have hi : i < R.n := (List.getElem?_eq_some_iff.mp hz).1
      have fs : Fd K H' (.ref p) "sums" (.ref s) := ⟨p, _, dx, _, rfl, h1, T.clR, T.nR_sums, rfs_sums l t s⟩
      have hlen : ((List.range (i + 1)).map fun k => V.int (R.off k)).length = i + 1 := by rw [List.length_map, List.length_range]
      refine ⟨_, rfl, _, fs, .inl ⟨rfl, _, SqL.of h3⟩, ?_⟩
      refine ⟨_, rfl, _, fs, _, rfl, s, _, _, _, rfl, rfl, SqL.of h3, atI_neg1 (n := i) (v := .int (R.off i)) hlen ?_, _, rfl, _, _, rfl, rfl, ?_⟩
      · rw [List.getElem?_map, List.getElem?_range (by omega)]
        rfl
      refine ⟨s, _, _, rfl, rfl, h3, szLt (by omega), ?_⟩
      have hgap : R.off i + z = R.off (i + 1) := by
        show _ = R.off i + R.gap i
        rw [Ru.gap_low hi, List.getD_eq_getElem?_getD, hz]
        rfl
      refine ⟨_, rfl, fun b o hb nb => ?_, ?_, ?_, ?_⟩
      · rw [upd_ne (ne_of_none hb hs0)]
        exact kp b o hb nb
      · rw [upd_ne nsp.symm]
        exact h1
      · rw [upd_ne nsl.symm]
        exact h2
      · rw [upd_same, range_off R (i + 1)]
        show some (HO.lst (_ ++ [V.int (R.off i + z)])) = _
        rw [hgap]
    · rintro σ' H' ⟨v, rfl, kp, h1, h2, h3⟩
      refine k H' (fun b o hb nb => kp b o (s1 _ _ hb) nb) ⟨ok, dx, l, t, s, h1, h2, kp _ _ (s1 _ _ ht) ntp, ?_⟩
      rw [h3, hg1]
      unfold Ru.sums
      rw [List.map_map]
      rfl
end
end My
set_option Elab.async false
set_option linter.all false
set_option maxRecDepth 100000
set_option maxHeartbeats 4000000
namespace My
open PySem PySem.Spec PyProof.Rows L2
section
variable {P : Program} {w : World} {K : PySem.W.Frag} {mg : Str → Option Value} {base : Heap}
def sp_Rule_gaps (K : PySem.W.Frag) : Sp := fun vs H Q _ => ∃ (p : Addr) (R : Ru), vs = [.ref p] ∧ RuleAt K H p R ∧ ∀ l, H l = none → Q (.ref l) (upd H l (.lst (R.g.map V.int)))
theorem sc_Rule_gaps : FnScope ["self"] ["self"] (defScope s_Rule_gaps) := ⟨rfl, rfl, rfl, by decide +kernel, rfl, by decide +kernel, by decide +kernel⟩
theorem ok_Rule_gaps {f : Addr} {fd : FuncData} (F : FunD K "gaps" "Rule.gaps" (defArgs s_Rule_gaps) (defBody s_Rule_gaps) (defScope s_Rule_gaps) [] [] f fd) (T : Txt K mg)  :
    FnOk P w K mg base CX0 1 f fd ["self"] (sp_Rule_gaps K) := by
  refine F.ok sc_Rule_gaps (fun vs H Q E h => ?_) (fun cdv A outer s H vs Q E hr h => ?_)
  · obtain ⟨_, _, rfl, _⟩ := h
    rfl
  · have hu := hu_of hr
    obtain ⟨p, R, rfl, hR, k⟩ := h
    obtain ⟨l, t, s, fl, ft, fs, hl, ht, hs⟩ := hR.open T
    refine ⟨_, PSs.nox ((pss_one (ps_ret (pe_callTy call_list_of (by rfl) T.f_list (by decide +kernel) (pa_cons (pe_f (pv 0)) pa_nil))))), ?_⟩
    exact ⟨_, rfl, _, fl, l, _, rfl, .inl (SqL.of hl), k⟩
def sp_Rule_tail (K : PySem.W.Frag) : Sp := fun vs H Q _ => ∃ (p : Addr) (R : Ru), vs = [.ref p] ∧ RuleAt K H p R ∧ ∀ t, H t = some (.tup R.t.vs) → Q (.ref t) H
theorem sc_Rule_tail : FnScope ["self"] ["self"] (defScope s_Rule_tail) := ⟨rfl, rfl, rfl, by decide +kernel, rfl, by decide +kernel, by decide +kernel⟩
theorem ok_Rule_tail {f : Addr} {fd : FuncData} (F : FunD K "tail" "Rule.tail" (defArgs s_Rule_tail) (defBody s_Rule_tail) (defScope s_Rule_tail) [] [] f fd) (T : Txt K mg)  :
    FnOk P w K mg base CX0 1 f fd ["self"] (sp_Rule_tail K) := by
  refine F.ok sc_Rule_tail (fun vs H Q E h => ?_) (fun cdv A outer s H vs Q E hr h => ?_)
  · obtain ⟨_, _, rfl, _⟩ := h
    rfl
  · have hu := hu_of hr
    obtain ⟨p, R, rfl, hR, k⟩ := h
    obtain ⟨l, t, s, fl, ft, fs, hl, ht, hs⟩ := hR.open T
    refine ⟨_, PSs.nox ((pss_one (ps_ret (pe_f (pv 0))))), ?_⟩
    exact ⟨_, rfl, _, ft, k t ht⟩
def Ru.lim (R : Ru) : V := if R.t = .fin then .int ((R.n + 1 : Nat) : Int) else .non
def sp_Rule_attempts (K : PySem.W.Frag) : Sp := fun vs H Q _ => ∃ (p : Addr) (R : Ru), vs = [.ref p] ∧ RuleAt K H p R ∧ Q R.lim H
theorem sc_Rule_attempts : FnScope ["self"] ["self"] (defScope s_Rule_attempts) := ⟨rfl, rfl, rfl, by decide +kernel, rfl, by decide +kernel, by decide +kernel⟩
theorem ok_Rule_attempts {f : Addr} {fd : FuncData} (F : FunD K "attempts" "Rule.attempts" (defArgs s_Rule_attempts) (defBody s_Rule_attempts) (defScope s_Rule_attempts) [] [] f fd) (T : Txt K mg)  :
    FnOk P w K mg base CX0 1 f fd ["self"] (sp_Rule_attempts K) := by
  refine F.ok sc_Rule_attempts (fun vs H Q E h => ?_) (fun cdv A outer s H vs Q E hr h => ?_)
  · obtain ⟨_, _, rfl, _⟩ := h
    rfl
  · have hu := hu_of hr
    obtain ⟨p, R, rfl, hR, k⟩ := h
    obtain ⟨l, t, s, fl, ft, fs, hl, ht, hs⟩ := hR.open T
    refine ⟨_, PSs.nox ((pss_one (ps_ret (pe_ifExp (pt_cmpR op_eq (pe_ix ix_tup (pe_f (pv 0)) pe_int (fun _ _ => rfl)) pe_str (nomark _)) (pe_callB call_len_seq (by rfl) T.f_len (by decide +kernel) (pa_cons (pe_f (pv 0)) pa_nil)) pe_non)))), ?_⟩
    refine ⟨_, rfl, _, ft, t, _, _, _, rfl, rfl, SqT.of ht, tl_at0 _, tl_flat _ _, _, rfl, ?_⟩
    rw [tl_end]
    unfold Ru.lim at k
    refine ite2 (fun hc => ?_) (fun hc => ?_)
    · rw [if_pos (of_decide_eq_true hc)] at k
      refine ⟨_, rfl, _, fs, s, _, rfl, .inl (SqL.of hs), ?_⟩
      rw [List.length_map, sums_len]
      exact k
    · rw [if_neg fun e => hc (decide_eq_true e)] at k
      exact k
def Ru.perV (R : Ru) : V := match R.t with
  | .rep m => .int (R.per m)
  | _ => .non
def sp_Rule_period (K : PySem.W.Frag) : Sp := fun vs H Q _ => ∃ (p : Addr) (R : Ru), vs = [.ref p] ∧ RuleAt K H p R ∧ Q R.perV H
theorem sc_Rule_period : FnScope ["self"] ["self"] (defScope s_Rule_period) := ⟨rfl, rfl, rfl, by decide +kernel, rfl, by decide +kernel, by decide +kernel⟩
theorem ok_Rule_period {f : Addr} {fd : FuncData} (F : FunD K "period" "Rule.period" (defArgs s_Rule_period) (defBody s_Rule_period) (defScope s_Rule_period) [] [] f fd) (T : Txt K mg)  :
    FnOk P w K mg base CX0 1 f fd ["self"] (sp_Rule_period K) := by
  refine F.ok sc_Rule_period (fun vs H Q E h => ?_) (fun cdv A outer s H vs Q E hr h => ?_)
  · obtain ⟨_, _, rfl, _⟩ := h
    rfl
  · have hu := hu_of hr
    obtain ⟨p, R, rfl, hR, k⟩ := h
    obtain ⟨l, t, s, fl, ft, fs, hl, ht, hs⟩ := hR.open T
    refine ⟨_, PSs.nox ((pss_cons (ps_if (pt_cmpR op_ne (pe_ix ix_tup (pe_f (pv 0)) pe_int (fun _ _ => rfl)) pe_str (nomark _)) (pss_one (ps_ret pe_non)) pss_nil)
      (pss_one (ps_ret (pe_op op_sub (pe_ix ix_list (pe_f (pv 0)) (pe_un un_neg pe_int) (fun _ _ => rfl)) (pe_ix ix_list (pe_f (pv 0)) (pe_op op_sub (pe_callB call_len_seq (by rfl) T.f_len (by decide +kernel) (pa_cons (pe_f (pv 0)) pa_nil)) (pe_ix ix_tup (pe_f (pv 0)) pe_int (fun _ _ => rfl))) (fun _ _ => rfl))))))), ?_⟩
    have hslen : (R.sums.map V.int).length = R.n + 1 := by rw [List.length_map, sums_len]
    refine ⟨_, rfl, _, ft, t, _, _, _, rfl, rfl, SqT.of ht, tl_at0 _, tl_flat _ _, _, rfl, ?_⟩
    rw [tl_repeat]
    unfold Ru.perV at k
    cases e : R.t with
    | rep m =>
      rw [e] at k ht
      obtain ⟨m1, m2⟩ := hR.ok.tm m e
      refine iteF ⟨_, rfl, _, fs, _, rfl, s, _, _, _, rfl, rfl, SqL.of hs, atI_neg1 hslen (sums_at (Nat.le_refl _)), ?_⟩
      refine ⟨_, rfl, _, fs, _, rfl, _, fl, l, _, rfl, .inl (SqL.of hl), _, rfl, _, ft, t, _, _, _, rfl, rfl, SqT.of ht, rfl, _, _, rfl, rfl, s, _, _, _, rfl, rfl, SqL.of hs,
        atI_n (j := R.n - m) ?_ (sums_at (by omega)), _, _, rfl, rfl, k⟩
      rw [List.length_map]
      show ((R.n : Nat) : Int) - (m : Int) = _
      omega
    | fin =>
      rw [e] at k
      exact iteT k
    | tim b =>
      rw [e] at k
      exact iteT k
def sp_Rule_offset_of (K : PySem.W.Frag) : Sp := fun vs H Q _ => ∃ (p : Addr) (R : Ru) (a : Nat), vs = [.ref p, .int a] ∧ RuleAt K H p R ∧ R.has a = true ∧ (∀ b, R.t = .tim b → a ≤ R.n + 63) ∧ Q (.int (R.off a)) H
theorem sc_Rule_offset_of : FnScope ["self", "attempt", "further", "factor", "count", "first", "partial"] ["self", "attempt"] (defScope s_Rule_offset_of) := ⟨rfl, rfl, rfl, by decide +kernel, rfl, by decide +kernel, by decide +kernel⟩
theorem ok_Rule_offset_of {f : Addr} {fd : FuncData} (F : FunD K "offset_of" "Rule.offset_of" (defArgs s_Rule_offset_of) (defBody s_Rule_offset_of) (defScope s_Rule_offset_of) [] [] f fd) (T : Txt K mg) (c_R_period : C8.Met P w K mg base 1 (cR K) "period" (sp_Rule_period K) []) (c_power : C8.Cal P w K mg base 1 "power" (sp_power K) []) :
    FnOk P w K mg base CX0 2 f fd ["self", "attempt"] (sp_Rule_offset_of K) := by
  refine F.ok sc_Rule_offset_of (fun vs H Q E h => ?_) (fun cdv A outer s H vs Q E hr h => ?_)
  · obtain ⟨_, _, _, rfl, _⟩ := h
    rfl
  · have hu := hu_of hr
    obtain ⟨p, R, a, rfl, hR, hhas, hlim, k⟩ := h
    obtain ⟨l, t, s, fl, ft, fs, hl, ht, hs⟩ := hR.open T
    refine ⟨_, PSs.nox ((pss_cons (ps_if (pt_cmpR op_lt (pv 1) (pe_callB call_len_seq (by rfl) T.f_len (by decide +kernel) (pa_cons (pe_f (pv 0)) pa_nil)) (nomark _)) (pss_one (ps_ret (pe_ix ix_list (pe_f (pv 0)) (pv 1) (fun _ _ => rfl)))) pss_nil)
      (pss_cons (ps_set (i := 2) sc_Rule_offset_of.nd rfl (by first | exact Or.inl rfl | exact Or.inr rfl) (pe_op op_sub (pv 1) (pe_callB call_len_seq (by rfl) T.f_len (by decide +kernel) (pa_cons (pe_f (pv 0)) pa_nil))))
      (pss_cons (ps_if (pt_cmpR op_eq (pe_ix ix_tup (pe_f (pv 0)) pe_int (fun _ _ => rfl)) pe_str (nomark _)) (pss_cons (ps_set (i := 3) sc_Rule_offset_of.nd rfl (by first | exact Or.inl rfl | exact Or.inr rfl) (pe_ix ix_tup (pe_f (pv 0)) pe_int (fun _ _ => rfl)))
      (pss_one (ps_ret (pe_op op_add (pe_ix ix_list (pe_f (pv 0)) (pe_un un_neg pe_int) (fun _ _ => rfl)) (pe_op op_fdiv (pe_op op_mul (pe_op op_mul (pe_ix ix_list (pe_f (pv 0)) (pe_un un_neg pe_int) (fun _ _ => rfl)) (pv 3)) (pe_op op_sub (C8.pe_c c_power hr (by decide) (by rfl) (pa_cons (pv 3) (pa_cons (pv 2) pa_nil))) pe_int)) (pe_op op_sub (pv 3) pe_int)))))) pss_nil)
      (pss_cons (ps_set (i := 4) sc_Rule_offset_of.nd rfl (by first | exact Or.inl rfl | exact Or.inr rfl) (pe_ix ix_tup (pe_f (pv 0)) pe_int (fun _ _ => rfl)))
      (pss_cons (ps_set (i := 5) sc_Rule_offset_of.nd rfl (by first | exact Or.inl rfl | exact Or.inr rfl) (pe_op op_sub (pe_callB call_len_seq (by rfl) T.f_len (by decide +kernel) (pa_cons (pe_f (pv 0)) pa_nil)) (pv 4)))
      (pss_cons (ps_set (i := 6) sc_Rule_offset_of.nd rfl (by first | exact Or.inl rfl | exact Or.inr rfl) (pe_op op_sub (pe_ix ix_list (pe_f (pv 0)) (pe_op op_add (pv 5) (pe_op op_mod (pv 2) (pv 4))) (fun _ _ => rfl)) (pe_ix ix_list (pe_f (pv 0)) (pv 5) (fun _ _ => rfl))))
      (pss_one (ps_ret (pe_op op_add (pe_op op_add (pe_ix ix_list (pe_f (pv 0)) (pe_un un_neg pe_int) (fun _ _ => rfl)) (pe_op op_mul (pe_op op_fdiv (pv 2) (pv 4)) (pe_m0 c_R_period hr (by decide) (pv 0)))) (pv 6))))))))))), ?_⟩
    have hslen : (R.sums.map V.int).length = R.n + 1 := by rw [List.length_map, sums_len]
    have hglen : (R.g.map V.int).length = R.n := by rw [List.length_map]; rfl
    have ok := hR.ok
    have n1 := ok.n1
    have n4 := ok.n4
    -- if attempt < len(self.sums): return self.sums[attempt]
    refine ⟨_, rfl, _, rfl, _, fs, s, _, rfl, .inl (SqL.of hs), _, _, rfl, rfl, _, rfl, ?_⟩
    rw [hslen]
    refine ite2 (fun hc => ?_) (fun hc => ?_)
    · have hc2 : a ≤ R.n := by
        have := of_decide_eq_true hc
        omega
      exact ⟨_, rfl, _, fs, _, rfl, s, _, _, _, rfl, rfl, SqL.of hs, atI_nat (sums_at hc2), k⟩
    have hgt : R.n < a := Nat.lt_of_not_le fun q => hc (decide_eq_true (by omega))
    obtain ⟨q, rfl⟩ : ∃ q, a = R.n + q := ⟨a - R.n, by omega⟩
    -- further = attempt - len(self.listed)
    refine ⟨_, rfl, _, rfl, _, fl, l, _, rfl, .inl (SqL.of hl), _, _, rfl, rfl, ?_⟩
    have e1 : ((R.n + q : Nat) : Int) - ((R.g.map V.int).length : Int) = (q : Int) := by rw [hglen]; omega
    show tSeq _ _ _ [some (.ref p), some (.int ((R.n + q : Nat) : Int)), some (.int (((R.n + q : Nat) : Int) - ((R.g.map V.int).length : Int))), none, none, none, none] H
    rw [e1]
    refine ⟨_, rfl, _, ft, t, _, _, _, rfl, rfl, SqT.of ht, tl_at0 _, tl_flat _ _, _, rfl, ?_⟩
    rw [tl_times]
    cases e : R.t with
    | fin =>
      rw [Ru.has_fin e] at hhas
      have := of_decide_eq_true hhas
      omega
    | tim b =>
      rw [e] at ht
      have hb := ok.tb b e
      have hq := hlim b e
      have glast : (R.g.map V.int)[R.n - 1]? = some (.int R.last) := by
        rw [List.getElem?_map]
        unfold Ru.last
        rw [List.getD_eq_getElem?_getD, List.getElem?_eq_getElem (show R.n - 1 < R.g.length by show R.n - 1 < R.n; omega)]
        rfl
      have hlast := ok.at_ (R.n - 1)
      have hlast2 : 1 ≤ R.last ∧ R.last ≤ 30 := hlast
      refine iteT ⟨_, rfl, _, ft, t, _, _, _, rfl, rfl, SqT.of ht, rfl, ?_⟩
      refine ⟨_, rfl, _, fs, _, rfl, s, _, _, _, rfl, rfl, SqL.of hs, atI_neg1 hslen (sums_at (Nat.le_refl _)), ?_⟩
      refine ⟨_, rfl, _, fl, _, rfl, l, _, _, _, rfl, rfl, SqL.of hl, atI_neg1 (n := R.n - 1) (by omega) glast, _, rfl, _, _, rfl, rfl, .inl (by omega), ?_⟩
      refine ⟨_, rfl, _, rfl, b, q, rfl, by omega, by omega, _, _, rfl, rfl, _, _, rfl, rfl, .inl ?_, _, rfl, _, _, rfl, rfl, _, _, rfl, rfl, (show (0 : Int) < (b : Int) - 1 ∧ (b : Int) - 1 < 1073741824 by omega), _, _, rfl, rfl, ?_⟩
      · have h1 : 0 < R.last * (b : Int) := Int.mul_pos (by omega) (by omega)
        have h2 : R.last * (b : Int) ≤ 30 * 3 := Int.mul_le_mul (by omega) (by omega) (by omega) (by omega)
        omega
      · have f := Ru.off_tim_div ok e q
        rw [Int.natCast_pow]
        rw [f] at k
        exact k
    | rep m =>
      rw [e] at ht
      obtain ⟨m1, m2⟩ := ok.tm m e
      have hmlt : q % m < m := Nat.mod_lt _ (by omega)
      refine iteF ⟨_, rfl, _, ft, t, _, _, _, rfl, rfl, SqT.of ht, rfl, ?_⟩
      refine ⟨_, rfl, _, fl, l, _, rfl, .inl (SqL.of hl), _, rfl, _, _, rfl, rfl, ?_⟩
      have e2 : ((R.g.map V.int).length : Int) - (m : Int) = ((R.n - m : Nat) : Int) := by rw [hglen]; omega
      have e3 : ((R.n - m : Nat) : Int) + (q : Int) % (m : Int) = ((R.n - m + q % m : Nat) : Int) := by rw [Int.natCast_add, Int.natCast_emod]
      refine ⟨_, rfl, _, fs, _, rfl, _, rfl, _, rfl, _, _, rfl, rfl, (show (0 : Int) < (m : Int) by omega), _, _, rfl, rfl, s, _, _, _, rfl, rfl, SqL.of hs, atI_n (j := R.n - m + q % m) (by rw [e2, e3]) (sums_at (by omega)), ?_⟩
      refine ⟨_, rfl, _, fs, _, rfl, s, _, _, _, rfl, rfl, SqL.of hs, atI_n (j := R.n - m) e2 (sums_at (by omega)), _, _, rfl, rfl, ?_⟩
      refine ⟨_, rfl, _, fs, _, rfl, s, _, _, _, rfl, rfl, SqL.of hs, atI_neg1 hslen (sums_at (Nat.le_refl _)), ?_⟩
      refine ⟨_, rfl, _, rfl, _, _, rfl, rfl, (show (0 : Int) < (m : Int) ∧ (m : Int) < 1073741824 by omega), ?_⟩
      have hper : R.perV = .int (R.per m) := by unfold Ru.perV; rw [e]
      have hpb : 0 ≤ R.per m ∧ R.per m ≤ 120 := Ru.per_le ok e
      refine ⟨_, rfl, hR.md mR_period, p, R, rfl, hR, ?_⟩
      rw [hper]
      refine ⟨_, _, rfl, rfl, .inr (by omega), _, _, rfl, rfl, _, rfl, _, _, rfl, rfl, ?_⟩
      have f := Ru.off_rep ok e q
      rw [f, Int.natCast_ediv] at k
      exact k
end
end My
set_option Elab.async false
set_option linter.all false
set_option maxRecDepth 100000
set_option maxHeartbeats 4000000
namespace My
open PySem PySem.Spec PyProof.Rows L2
section
variable {P : Program} {w : World} {K : PySem.W.Frag} {mg : Str → Option Value} {base : Heap}
def sp_Rule_first_from (K : PySem.W.Frag) : Sp := fun vs H Q _ => ∃ (p : Addr) (R : Ru) (d : Int), vs = [.ref p, .int d] ∧ RuleAt K H p R ∧ (∀ b, R.t = .tim b → d ≤ 2 ^ 40) ∧ ∀ H', Same H H' → Q (optV (R.first d)) H'
theorem sc_Rule_first_from : FnScope ["self", "distance", "attempt", "offset"] ["self", "distance"] (defScope s_Rule_first_from) := ⟨rfl, rfl, rfl, by decide +kernel, rfl, by decide +kernel, by decide +kernel⟩
theorem ok_Rule_first_from {f : Addr} {fd : FuncData} (F : FunD K "first_from" "Rule.first_from" (defArgs s_Rule_first_from) (defBody s_Rule_first_from) (defScope s_Rule_first_from) [] [] f fd) (T : Txt K mg) (c_R_offset_of : C8.Met P w K mg base 2 (cR K) "offset_of" (sp_Rule_offset_of K) []) (c_R_period : C8.Met P w K mg base 1 (cR K) "period" (sp_Rule_period K) []) (c_is_integer : C8.Cal P w K mg base 1 "is_integer" (sp_is_integer K) []) :
    FnOk P w K mg base CX0 3 f fd ["self", "distance"] (sp_Rule_first_from K) := by
  refine F.ok sc_Rule_first_from (fun vs H Q E h => ?_) (fun cdv A outer s H vs Q E hr h => ?_)
  · obtain ⟨_, _, _, rfl, _⟩ := h
    rfl
  · have hu := hu_of hr
    obtain ⟨p, R, d, rfl, hR, hlim, k⟩ := h
    obtain ⟨l, t, s, fl, ft, fs, hl, ht, hs⟩ := hR.open T
    refine ⟨_, PSs.nox ((pss_cons (ps_if (pt_not (pt_val (C8.pe_c c_is_integer hr (by decide) (by rfl) (pa_cons (pv 1) pa_nil)))) (pss_one ps_never) pss_nil)
      (pss_cons (ps_for PassesOwn.never rfl (pi_enum (by rfl) T.f_enumerate (pa_cons (pe_f (pv 0)) pa_nil)) (pg_tup rfl (pgs_cons (pg_name (i := 2) sc_Rule_first_from.nd rfl (by first | exact Or.inl rfl | exact Or.inr rfl)) (pgs_cons (pg_name (i := 3) sc_Rule_first_from.nd rfl (by first | exact Or.inl rfl | exact Or.inr rfl)) pgs_nil))) (pss_one (ps_if (pt_cmpR op_ge (pv 3) (pv 1) (nomark _)) (pss_one (ps_ret (pv 2))) pss_nil)))
      (pss_cons (ps_if (pt_cmpR op_eq (pe_ix ix_tup (pe_f (pv 0)) pe_int (fun _ _ => rfl)) pe_str (nomark _)) (pss_one (ps_ret pe_non)) pss_nil)
      (pss_cons (ps_set (i := 2) sc_Rule_first_from.nd rfl (by first | exact Or.inl rfl | exact Or.inr rfl) (pe_callB call_len_seq (by rfl) T.f_len (by decide +kernel) (pa_cons (pe_f (pv 0)) pa_nil)))
      (pss_cons (ps_if (pt_cmpR op_eq (pe_ix ix_tup (pe_f (pv 0)) pe_int (fun _ _ => rfl)) pe_str (nomark _)) (pss_one (ps_set (i := 2) sc_Rule_first_from.nd rfl (by first | exact Or.inl rfl | exact Or.inr rfl) (pe_op op_add (pv 2) (pe_op op_mul (pe_op op_fdiv (pe_op op_sub (pv 1) (pe_ix ix_list (pe_f (pv 0)) (pe_un un_neg pe_int) (fun _ _ => rfl))) (pe_m0 c_R_period hr (by decide) (pv 0))) (pe_ix ix_tup (pe_f (pv 0)) pe_int (fun _ _ => rfl)))))) pss_nil)
      (pss_cons (ps_while PassesOwn.never (pt_cmpR op_lt (pe_m c_R_offset_of hr (by decide) (pv 0) (pa_cons (pv 2) pa_nil)) (pv 1) (nomark _)) (pss_one (ps_set (i := 2) sc_Rule_first_from.nd rfl (by first | exact Or.inl rfl | exact Or.inr rfl) (pe_op op_add (pv 2) pe_int))))
      (pss_one (ps_ret (pv 2)))))))))), ?_⟩
    have hslen : (R.sums.map V.int).length = R.n + 1 := by rw [List.length_map, sums_len]
    have hglen : (R.g.map V.int).length = R.n := by rw [List.length_map]; rfl
    have ok := hR.ok
    -- if not is_integer(distance)
    refine ⟨_, rfl, d, rfl, true, rfl, iteF ?_⟩
    -- for attempt, offset in enumerate(self.sums): if offset >= distance: return attempt
    refine ⟨_, rfl, _, fs, s, _, rfl, SqL.of hs, for_it (walk_enum (K := K) (a := s) (xs := R.sums.map V.int)) (fun i σ' H' => ∃ v2 v3 : Option V, σ' = [some (.ref p), some (.int d), v2, v3] ∧ Same H H' ∧ ∀ j, j < i → R.off j < d)
      ⟨none, none, rfl, Same.refl _, fun j hj => absurd hj (Nat.not_lt_zero j)⟩ (fun i σ' H' _ ⟨_, _, _, s1, _⟩ => s1.seq (SqL.of hs)) ?_ ?_⟩
    · rintro i x σ' H1 H2 hi ⟨v2, v3, rfl, s1, hlt⟩ ⟨Ta, x1, y1, rfl, hT, rfl, hx1, hy1⟩
      rw [hslen] at hi
      have ex1 : x1 = .int (i : Nat) := (Option.some.inj hx1).symm
      have ey1 : y1 = .int (R.off i) := by
        have e := sums_at (R := R) (k := i) (by omega)
        exact Option.some.inj ((show (R.sums.map V.int)[i]? = some y1 from hy1).symm.trans e)
      subst ex1 ey1
      refine ⟨Ta, _, rfl, SqT.of upd_same, rfl, _, _, rfl, _, _, rfl, rfl, ?_⟩
      refine ⟨_, rfl, _, rfl, _, _, rfl, rfl, _, rfl, ite2 (fun hc => ?_) (fun hc => ?_)⟩
      · have hle : d ≤ R.off i := of_decide_eq_true hc
        have hf : R.first d = some i := (Ru.first_some ok).mpr ⟨Ru.has_le (a := i) (b := R.n) (by unfold Ru.has; simp) (by omega), hle, hlt⟩
        rw [hf] at k
        exact ⟨_, rfl, k _ (same_nw s1 hT)⟩
      · have hlt2 : R.off i < d := Int.lt_of_not_ge fun q => hc (decide_eq_true q)
        refine ⟨_, _, rfl, same_nw s1 hT, fun j hj => ?_⟩
        rcases Nat.lt_or_eq_of_le (Nat.le_of_lt_succ hj) with q | q
        · exact hlt j q
        · rw [q]; exact hlt2
    rintro σ' H1 ⟨v2, v3, rfl, s1, hlt⟩
    rw [hslen] at hlt
    have fl1 := fl.mono s1
    have ft1 := ft.mono s1
    have fs1 := fs.mono s1
    have hl1 := s1 _ _ hl
    have ht1 := s1 _ _ ht
    have hs1 := s1 _ _ hs
    have hR1 := hR.mono s1
    -- if self.ending[0] == 'end': return None
    refine ⟨_, rfl, _, ft1, t, _, _, _, rfl, rfl, SqT.of ht1, tl_at0 _, tl_flat _ _, _, rfl, ?_⟩
    rw [tl_end]
    refine ite2 (fun hc => ?_) (fun hc => ?_)
    · have e := of_decide_eq_true hc
      have hf : R.first d = none := (Ru.first_none ok).mpr fun a ha => by
        rw [Ru.has_fin e] at ha
        have := of_decide_eq_true ha
        exact hlt a (by omega)
      rw [hf] at k
      exact k _ s1
    have hnf : R.t ≠ .fin := fun e => hc (decide_eq_true e)
    -- attempt = len(self.listed)
    refine ⟨_, rfl, _, fl1, l, _, rfl, .inl (SqL.of hl1), ?_⟩
    rw [hglen]
    -- while self.offset_of(attempt) < distance: attempt = attempt + 1
    have loop : ∀ a0 : Nat, (∀ j, j < a0 → R.off j < d) → tSeq (tWhile (tTest (tOp (rI0 fun i j => .bl (decide (i < j))) (tM (cR K) "offset_of" (sp_Rule_offset_of K) (tVar 0) (tCons (tVar 2) tNil)) (tVar 1))) (tAsg (tOp (rI0 fun i j => .int (i + j)) (tVar 2) (tC (.int 1))) (gName 2))) (tRet (tVar 2))
        { nx := fun _ H' => Q .non H', rt := Q } [some (.ref p), some (.int d), some (.int (a0 : Int)), v3] H1 := by
      intro a0 h0
      refine ⟨fun m σ' H' => ∃ a : Nat, σ' = [some (.ref p), some (.int d), some (.int (a : Int)), v3] ∧ Same H H' ∧ (∀ j, j < a → R.off j < d) ∧ m = (d - a).toNat, ⟨_, a0, rfl, s1, h0, rfl⟩, ?_⟩
      rintro m σ' H' ⟨a, rfl, s2, ha, rfl⟩
      refine ⟨_, rfl, (hR.mono s2).md mR_offset_of, _, rfl, p, R, a, rfl, hR.mono s2, Ru.has_inf hnf a, fun b e => ?_, _, rfl, _, _, rfl, rfl, _, rfl, ite2 (fun hc2 => ?_) (fun hc2 => ?_)⟩
      · have := Ru.lid ok e (hlim b e) ha
        omega
      · have hlt2 : R.off a < d := of_decide_eq_true hc2
        have hge := R.off_ge ok a
        refine ⟨fun σ2 H2 => ∃ a' : Nat, σ2 = [some (.ref p), some (.int d), some (.int (a' : Int)), v3] ∧ Same H H2 ∧ (∀ j, j < a' → R.off j < d) ∧ a' = a + 1, fun σ2 H2 ⟨a', q1, q2, q3, q4⟩ => ⟨_, by subst q4; omega, a', q1, q2, q3, rfl⟩, ?_⟩
        refine ⟨_, rfl, _, _, rfl, rfl, ?_⟩
        refine ⟨a + 1, rfl, s2, fun j hj => ?_, rfl⟩
        rcases Nat.lt_or_eq_of_le (Nat.le_of_lt_succ hj) with q | q
        · exact ha j q
        · rw [q]; exact hlt2
      · have hge : d ≤ R.off a := Int.le_of_not_gt fun q => hc2 (decide_eq_true q)
        have hf : R.first d = some a := (Ru.first_some ok).mpr ⟨Ru.has_inf hnf a, hge, ha⟩
        rw [hf] at k
        exact ⟨_, rfl, k _ s2⟩
    -- if self.ending[0] == 'repeat'
    refine ⟨_, rfl, _, ft1, t, _, _, _, rfl, rfl, SqT.of ht1, tl_at0 _, tl_flat _ _, _, rfl, ?_⟩
    rw [tl_repeat]
    cases e : R.t with
    | fin => exact absurd e hnf
    | tim b => exact iteF (loop R.n fun j hj => hlt j (by omega))
    | rep m =>
      rw [e] at ht1
      obtain ⟨m1, m2⟩ := ok.tm m e
      have hper : R.perV = .int (R.per m) := by unfold Ru.perV; rw [e]
      have hp1 := Ru.per_pos ok e
      have hp2 := Ru.per_le ok e
      have hdn : R.off R.n < d := hlt R.n (by omega)
      have n4 := ok.n4
      refine iteT ⟨_, rfl, _, rfl, _, rfl, _, fs1, _, rfl, s, _, _, _, rfl, rfl, SqL.of hs1, atI_neg1 hslen (sums_at (Nat.le_refl _)), _, _, rfl, rfl, ?_⟩
      refine ⟨_, rfl, hR1.md mR_period, p, R, rfl, hR1, ?_⟩
      rw [hper]
      refine ⟨_, _, rfl, rfl, (show 0 < R.per m ∧ R.per m < 1073741824 by omega), _, rfl, _, ft1, t, _, _, _, rfl, rfl, SqT.of ht1, rfl, _, _, rfl, rfl, .inr (by omega), _, _, rfl, rfl, ?_⟩
      obtain ⟨q, hq⟩ : ∃ q : Nat, (d - R.off R.n) / R.per m = (q : Int) := ⟨((d - R.off R.n) / R.per m).toNat, by
        have := Int.ediv_nonneg (a := d - R.off R.n) (b := R.per m) (by omega) (by omega)
        omega⟩
      have key : ((R.n : Nat) : Int) + (d - R.off R.n) / R.per m * (m : Int) = ((R.n + q * m : Nat) : Int) := by
        rw [hq, Int.natCast_add, Int.natCast_mul]
      show tSeq _ _ _ [some (.ref p), some (.int d), some (.int (((R.n : Nat) : Int) + (d - R.off R.n) / R.per m * (m : Int))), v3] H1
      rw [key]
      refine loop (R.n + q * m) fun j hj => ?_
      have h1 : R.off (R.n + q * m) ≤ d := by
        have f := Ru.off_rep ok e (q * m)
        rw [Nat.mul_mod_left, Nat.mul_div_cancel _ (by omega), ← hq] at f
        have h2 := Int.ediv_mul_le (d - R.off R.n) (show R.per m ≠ 0 by omega)
        simp only [Nat.add_zero] at f
        omega
      have := Ru.off_lt ok hj
      omega
def sp_Rule_attempt_at (K : PySem.W.Frag) : Sp := fun vs H Q _ => ∃ (p : Addr) (R : Ru) (d : Int), vs = [.ref p, .int d] ∧ RuleAt K H p R ∧ (∀ b, R.t = .tim b → d ≤ 2 ^ 40) ∧ ∀ H', Same H H' → Q (optV (R.at d)) H'
theorem sc_Rule_attempt_at : FnScope ["self", "distance", "attempt"] ["self", "distance"] (defScope s_Rule_attempt_at) := ⟨rfl, rfl, rfl, by decide +kernel, rfl, by decide +kernel, by decide +kernel⟩
theorem ok_Rule_attempt_at {f : Addr} {fd : FuncData} (F : FunD K "attempt_at" "Rule.attempt_at" (defArgs s_Rule_attempt_at) (defBody s_Rule_attempt_at) (defScope s_Rule_attempt_at) [] [] f fd) (T : Txt K mg) (c_R_first_from : C8.Met P w K mg base 3 (cR K) "first_from" (sp_Rule_first_from K) []) (c_R_offset_of : C8.Met P w K mg base 2 (cR K) "offset_of" (sp_Rule_offset_of K) []) :
    FnOk P w K mg base CX0 4 f fd ["self", "distance"] (sp_Rule_attempt_at K) := by
  refine F.ok sc_Rule_attempt_at (fun vs H Q E h => ?_) (fun cdv A outer s H vs Q E hr h => ?_)
  · obtain ⟨_, _, _, rfl, _⟩ := h
    rfl
  · have hu := hu_of hr
    obtain ⟨p, R, d, rfl, hR, hlim, k⟩ := h
    refine ⟨_, PSs.nox ((pss_cons (ps_set (i := 2) sc_Rule_attempt_at.nd rfl (by first | exact Or.inl rfl | exact Or.inr rfl) (pe_m c_R_first_from hr (by decide) (pv 0) (pa_cons (pv 1) pa_nil)))
      (pss_cons (ps_if (PW.pt (pw_or (pt_cmpR op_isN (pv 2) pe_non (nomark _)) (pw_or1 (pt_cmpR op_ne (pe_m c_R_offset_of hr (by decide) (pv 0) (pa_cons (pv 2) pa_nil)) (pv 1) (nomark _))))) (pss_one (ps_ret pe_non)) pss_nil)
      (pss_one (ps_ret (pv 2)))))), ?_⟩
    have ok := hR.ok
    refine ⟨_, rfl, hR.md mR_first_from, _, rfl, p, R, d, rfl, hR, hlim, fun H1 s1 => ?_⟩
    unfold Ru.at at k
    cases hf : R.first d with
    | none =>
      rw [hf] at k
      exact ⟨_, rfl, rfl, true, rfl, iteT (B := tTest _ _ _ _) (iteT (k _ s1))⟩
    | some a =>
      rw [hf] at k
      obtain ⟨h1, h2, h3⟩ := (Ru.first_some ok).mp hf
      refine ⟨_, rfl, rfl, false, rfl, iteF ⟨_, rfl, (hR.mono s1).md mR_offset_of, _, rfl, p, R, a, rfl, hR.mono s1, h1, fun b e => ?_, _, rfl, rfl, _, rfl, ?_⟩⟩
      · have := Ru.lid ok e (hlim b e) h3
        omega
      · dsimp only at k
        by_cases he : R.off a = d
        · rw [if_pos he] at k
          rw [decide_eq_true (congrArg V.int he)]
          exact iteF ⟨_, rfl, k _ s1⟩
        · rw [if_neg he] at k
          rw [decide_eq_false (fun q => he (by injection q))]
          exact iteT (k _ s1)
end
end My
set_option Elab.async false
set_option linter.all false
set_option maxRecDepth 100000
set_option maxHeartbeats 4000000
namespace My
open PySem PySem.Spec PyProof.Rows L2
section
variable {P : Program} {w : World} {K : PySem.W.Frag} {mg : Str → Option Value} {base : Heap}
def sp_check_window (K : PySem.W.Frag) : Sp := fun vs H Q _ => ∃ (w : Addr) (a b : Int), vs = [.ref w] ∧ H w = some (.tup [.int a, .int b]) ∧ a < b ∧ ∀ H', Same H H' → Q .non H'
theorem sc_check_window : FnScope ["window", "good", "slot"] ["window"] (defScope s_check_window) := ⟨rfl, rfl, rfl, by decide +kernel, rfl, by decide +kernel, by decide +kernel⟩
theorem ok_check_window {f : Addr} {fd : FuncData} (F : FunD K "check_window" "check_window" (defArgs s_check_window) (defBody s_check_window) (defScope s_check_window) [] [] f fd) (T : Txt K mg) (c_is_integer : C8.Cal P w K mg base 1 "is_integer" (sp_is_integer K) []) :
    FnOk P w K mg base CX0 2 f fd ["window"] (sp_check_window K) := by
  refine F.ok sc_check_window (fun vs H Q E h => ?_) (fun cdv A outer s H vs Q E hr h => ?_)
  · obtain ⟨_, _, _, rfl, _⟩ := h
    rfl
  · have hu := hu_of hr
    obtain ⟨q, a, b, rfl, hq, hab, k⟩ := h
    refine ⟨_, PSs.nox ((pss_cons (ps_set (i := 1) sc_check_window.nd rfl (by first | exact Or.inl rfl | exact Or.inr rfl) (pe_and (pe_callB call_isi (by rfl) T.f_isinstance (by decide +kernel) (pa_cons (pv 0) (pa_cons (pe_bltn (v := .ty "tuple") (by rfl) T.f_tuple (by decide +kernel) rfl) pa_nil))) (pe_and (pe_cmpR op_eq (pe_callB call_len_seq (by rfl) T.f_len (by decide +kernel) (pa_cons (pv 0) pa_nil)) pe_int (nomark _)) (pe_one (pe_callB (cr_all rfl) (by rfl) T.f_all (by decide +kernel) (pa_cons (pe_lc (own := [("slot", 2)]) (g := (gName 2)) (tt := tYes) rfl sc_check_window.nd (pi_tup (pv 0)) (blkOk_by (own := [("slot", 2)]) (N := ["window", "good", "slot"]) (sc := defScope s_check_window) (by decide +kernel)) (fun _ _ _ _ _ => (pg_name (i := 2) sc_check_window.nd rfl (by first | exact Or.inl rfl | exact Or.inr rfl))) (fun _ _ _ _ _ => pts_nil) (fun _ _ _ _ _ => (C8.pe_c c_is_integer hr (by decide) (by rfl) (pa_cons (pv 2) pa_nil)))) pa_nil))))))
      (pss_one (ps_if (PW.pt (pw_or (pt_not (pt_val (pv 1))) (pw_or1 (pt_cmpR op_ge (pe_ix ix_tup (pv 0) pe_int (fun _ _ => rfl)) (pe_ix ix_tup (pv 0) pe_int (fun _ _ => rfl)) (nomark _))))) (pss_one ps_never) pss_nil)))), ?_⟩
    refine ⟨_, rfl, _, _, _, _, true, rfl, .ty _, .base (.tup hq), kit_ty (by decide +kernel), true, rfl, iteT ?_⟩
    refine ⟨_, rfl, q, _, rfl, .inr (SqT.of hq), rfl, true, rfl, iteT ?_⟩
    refine ⟨_, rfl, q, rfl, ⟨_, SqT.of hq⟩, fun D hD => lc_pure (walk_tup (K := K) (a := q) (xs := [V.int a, V.int b])) (fun _ => true) (fun _ y _ => y = .bl true) (fun _ _ _ _ _ h => h) hD (by show 2 < 100000; decide) (fun H1 e => same_tup e (SqT.of hq)) ?_ ?_⟩
    · rintro i x H1 H2 Ky Kn hi s1 ⟨rfl, hx⟩ hy _
      obtain ⟨z, rfl⟩ : ∃ z, x = V.int z := by
        have hm := List.mem_of_getElem? hx
        simp at hm
        rcases hm with e | e
        · exact ⟨_, e⟩
        · exact ⟨_, e⟩
      exact ⟨rfl, yes_te ⟨_, rfl, z, rfl, hy rfl _ _ rfl (Same.refl _)⟩⟩
    intro H1 acc s1 hD1 hm
    have hacc := Made.fn (H := H1) (f := fun _ => V.bl true) hm
    rw [map_bl] at hacc
    have hq1 := s1 _ _ hq
    refine ⟨D, _, rfl, by rw [← hacc]; exact SqL.of hD1, ?_⟩
    rw [map_true]
    refine ⟨_, rfl, true, rfl, iteF ?_⟩
    refine ⟨_, rfl, q, _, _, _, rfl, rfl, SqT.of hq1, rfl, _, rfl, q, _, _, _, rfl, rfl, SqT.of hq1, rfl, _, _, rfl, rfl, false, congrArg V.bl (decide_eq_false (by omega)), iteF (k _ s1)⟩
def sp_is_entry (K : PySem.W.Frag) : Sp := fun vs H Q _ => ∃ (q e : Addr) (a b s c : Int), vs = [.ref q, .ref e] ∧ H q = some (.tup [.int a, .int b]) ∧ H e = some (.tup [.int s, .int c]) ∧ a ≤ s ∧ s < b ∧ 0 < c ∧ ∀ H', Same H H' → Q (.bl true) H'
theorem sc_is_entry : FnScope ["window", "value", "number"] ["window", "value"] (defScope s_is_entry) := ⟨rfl, rfl, rfl, by decide +kernel, rfl, by decide +kernel, by decide +kernel⟩
theorem ok_is_entry {f : Addr} {fd : FuncData} (F : FunD K "is_entry" "is_entry" (defArgs s_is_entry) (defBody s_is_entry) (defScope s_is_entry) [] [] f fd) (T : Txt K mg) (c_is_integer : C8.Cal P w K mg base 1 "is_integer" (sp_is_integer K) []) :
    FnOk P w K mg base CX0 2 f fd ["window", "value"] (sp_is_entry K) := by
  refine F.ok sc_is_entry (fun vs H Q E h => ?_) (fun cdv A outer s H vs Q E hr h => ?_)
  · obtain ⟨_, _, _, _, _, _, rfl, _⟩ := h
    rfl
  · have hu := hu_of hr
    obtain ⟨q, e, a, b, z, c, rfl, hq, he, h1, h2, h3, k⟩ := h
    refine ⟨_, PSs.nox ((pss_cons (ps_if (PW.pt (pw_or (pt_not (pt_val (pe_callB call_isi (by rfl) T.f_isinstance (by decide +kernel) (pa_cons (pv 1) (pa_cons (pe_bltn (v := .ty "tuple") (by rfl) T.f_tuple (by decide +kernel) rfl) pa_nil))))) (pw_or (pt_cmpR op_ne (pe_callB call_len_seq (by rfl) T.f_len (by decide +kernel) (pa_cons (pv 1) pa_nil)) pe_int (nomark _)) (pw_or1 (pt_not (pt_val (pe_callB (cr_all rfl) (by rfl) T.f_all (by decide +kernel) (pa_cons (pe_lc (own := [("number", 2)]) (g := (gName 2)) (tt := tYes) rfl sc_is_entry.nd (pi_tup (pv 1)) (blkOk_by (own := [("number", 2)]) (N := ["window", "value", "number"]) (sc := defScope s_is_entry) (by decide +kernel)) (fun _ _ _ _ _ => (pg_name (i := 2) sc_is_entry.nd rfl (by first | exact Or.inl rfl | exact Or.inr rfl))) (fun _ _ _ _ _ => pts_nil) (fun _ _ _ _ _ => (C8.pe_c c_is_integer hr (by decide) (by rfl) (pa_cons (pv 2) pa_nil)))) pa_nil)))))))) (pss_one (ps_ret pe_bl)) pss_nil)
      (pss_one (ps_ret (pe_and (pe_chain op_le op_lt (pe_ix ix_tup (pv 0) pe_int (fun _ _ => rfl)) (pe_ix ix_tup (pv 1) pe_int (fun _ _ => rfl)) (pe_ix ix_tup (pv 0) pe_int (fun _ _ => rfl))) (pe_one (pe_cmpR op_gt (pe_ix ix_tup (pv 1) pe_int (fun _ _ => rfl)) pe_int (nomark _)))))))), ?_⟩
    refine ⟨_, rfl, _, _, _, _, true, rfl, .ty _, .base (.tup he), kit_ty (by decide +kernel), true, rfl, iteF ?_⟩
    refine ⟨_, rfl, e, _, rfl, .inr (SqT.of he), rfl, false, rfl, iteF ?_⟩
    refine ⟨_, rfl, e, rfl, ⟨_, SqT.of he⟩, fun D hD => lc_pure (walk_tup (K := K) (a := e) (xs := [V.int z, V.int c])) (fun _ => true) (fun _ y _ => y = .bl true) (fun _ _ _ _ _ h => h) hD (by show 2 < 100000; decide) (fun H1 e => same_tup e (SqT.of he)) ?_ ?_⟩
    · rintro i x H1 H2 Ky Kn hi s1 ⟨rfl, hx⟩ hy _
      obtain ⟨u, rfl⟩ : ∃ u, x = V.int u := by
        have hm := List.mem_of_getElem? hx
        simp at hm
        rcases hm with e | e
        · exact ⟨_, e⟩
        · exact ⟨_, e⟩
      exact ⟨rfl, yes_te ⟨_, rfl, u, rfl, hy rfl _ _ rfl (Same.refl _)⟩⟩
    intro H1 acc s1 hD1 hm
    have hacc := Made.fn (H := H1) (f := fun _ => V.bl true) hm
    rw [map_bl] at hacc
    have hq1 := s1 _ _ hq
    have he1 := s1 _ _ he
    refine ⟨D, _, rfl, by rw [← hacc]; exact SqL.of hD1, ?_⟩
    rw [map_true]
    refine ⟨true, rfl, iteF ?_⟩
    refine ⟨_, rfl, q, _, _, _, rfl, rfl, SqT.of hq1, rfl, _, rfl, e, _, _, _, rfl, rfl, SqT.of he1, rfl, _, _, rfl, rfl, true, congrArg V.bl (decide_eq_true h1), iteT ?_⟩
    refine ⟨_, rfl, q, _, _, _, rfl, rfl, SqT.of hq1, rfl, _, _, rfl, rfl, true, congrArg V.bl (decide_eq_true h2), iteT ?_⟩
    refine ⟨_, rfl, e, _, _, _, rfl, rfl, SqT.of he1, rfl, _, _, rfl, rfl, ?_⟩
    show Q (V.bl (decide ((0 : Int) < c))) H1
    rw [decide_eq_true (show (0 : Int) < c from h3)]
    exact k _ s1
/-- a log as check_log wants it -/
structure GoodLog (a b : Int) (ps : List (Int × Int)) : Prop where
  len : ps.length ≤ 500
  mem : ∀ q ∈ ps, a ≤ q.1 ∧ q.1 < b ∧ 0 < q.2
  asc : ps.Pairwise fun x y => x.1 < y.1
def sp_check_log (K : PySem.W.Frag) : Sp := fun vs H Q _ => ∃ (q l : Addr) (a b : Int) (ps : List (Int × Int)), vs = [.ref q, .ref l] ∧ H q = some (.tup [.int a, .int b]) ∧ PairsAt H l ps ∧ GoodLog a b ps ∧ ∀ H', Same H H' → Q .non H'
theorem PairsAt.mono {H H' : Hp} {l : Addr} {ps : List (Int × Int)} (e : Same H H') (h : PairsAt H l ps) : PairsAt H' l ps := by
  obtain ⟨ts, h1, h2⟩ := h
  exact ⟨ts, e _ _ h1, L2.Paired.mapP h2 fun _ _ q => e _ _ q⟩
theorem pq_len {α β : Type} {F : α → β → Prop} {xs : List α} {ys : List β} (h : Paired F xs ys) : xs.length = ys.length := Paired.length h
theorem sc_check_log : FnScope ["window", "log", "at", "entry"] ["window", "log"] (defScope s_check_log) := ⟨rfl, rfl, rfl, by decide +kernel, rfl, by decide +kernel, by decide +kernel⟩
theorem ok_check_log {f : Addr} {fd : FuncData} (F : FunD K "check_log" "check_log" (defArgs s_check_log) (defBody s_check_log) (defScope s_check_log) [] [] f fd) (T : Txt K mg) (c_is_entry : C8.Cal P w K mg base 2 "is_entry" (sp_is_entry K) []) :
    FnOk P w K mg base CX0 3 f fd ["window", "log"] (sp_check_log K) := by
  refine F.ok sc_check_log (fun vs H Q E h => ?_) (fun cdv A outer s H vs Q E hr h => ?_)
  · obtain ⟨_, _, _, _, _, rfl, _⟩ := h
    rfl
  · have hu := hu_of hr
    obtain ⟨q, l, a, b, ps, rfl, hq, hl, good, k⟩ := h
    obtain ⟨ts, hl, hts⟩ := hl
    refine ⟨_, PSs.nox ((pss_cons (ps_if (PW.pt (pw_or (pt_not (pt_val (pe_callB call_isi (by rfl) T.f_isinstance (by decide +kernel) (pa_cons (pv 1) (pa_cons (pe_bltn (v := .ty "list") (by rfl) T.f_list (by decide +kernel) rfl) pa_nil))))) (pw_or1 (pt_cmpR op_gt (pe_callB call_len_seq (by rfl) T.f_len (by decide +kernel) (pa_cons (pv 1) pa_nil)) (C8.pe_gc rfl T.i_MOST_ENTRIES) (nomark _))))) (pss_one ps_never) pss_nil)
      (pss_one (ps_for PassesOwn.never rfl (pi_enum (by rfl) T.f_enumerate (pa_cons (pv 1) pa_nil)) (pg_tup rfl (pgs_cons (pg_name (i := 2) sc_check_log.nd rfl (by first | exact Or.inl rfl | exact Or.inr rfl)) (pgs_cons (pg_name (i := 3) sc_check_log.nd rfl (by first | exact Or.inl rfl | exact Or.inr rfl)) pgs_nil))) (pss_one (ps_if (PW.pt (pw_or (pt_not (pt_val (C8.pe_c c_is_entry hr (by decide) (by rfl) (pa_cons (pv 0) (pa_cons (pv 3) pa_nil))))) (pw_or1 (PW.pt (pw_and (pt_cmpR op_gt (pv 2) pe_int (nomark _)) (pw_and1 (pt_cmpR op_ge (pe_ix ix_tup (pe_ix ix_list (pv 1) (pe_op op_sub (pv 2) pe_int) (fun _ _ => rfl)) pe_int (fun _ _ => rfl)) (pe_ix ix_tup (pv 3) pe_int (fun _ _ => rfl)) (nomark _)))))))) (pss_one ps_never) pss_nil)))))), ?_⟩
    have hlen : (ts.map V.ref).length = ps.length := by rw [List.length_map]; exact pq_len hts
    have h500 := good.len
    refine ⟨_, rfl, _, _, _, _, true, rfl, .ty _, .base (.lst hl), kit_ty (by decide +kernel), true, rfl, iteF ?_⟩
    refine ⟨_, rfl, l, _, rfl, .inl (SqL.of hl), _, _, rfl, rfl, false, congrArg V.bl (decide_eq_false (by omega)), iteF ?_⟩
    refine ⟨_, rfl, l, _, rfl, SqL.of hl, for_it (walk_enum (K := K) (a := l) (xs := ts.map V.ref)) (fun i σ' H' => ∃ v2 v3 : Option V, σ' = [some (.ref q), some (.ref l), v2, v3] ∧ Same H H')
      ⟨none, none, rfl, Same.refl _⟩ (fun i σ' H' _ ⟨_, _, _, s1⟩ => s1.seq (SqL.of hl)) ?_ ?_⟩
    · rintro i x σ' H1 H2 hi ⟨v2, v3, rfl, s1⟩ ⟨Ta, x1, y1, rfl, hT, rfl, hx1, hy1⟩
      have ex1 : x1 = .int (i : Nat) := (Option.some.inj hx1).symm
      subst ex1
      have hy2 : (ts.map V.ref)[i]? = some y1 := hy1
      rw [List.getElem?_map] at hy2
      obtain ⟨t, ht, rfl⟩ := Option.map_eq_some_iff.mp hy2
      obtain ⟨e, he1, he2⟩ := pq_get hts ht
      obtain ⟨g1, g2, g3⟩ := good.mem e (List.mem_of_getElem? he1)
      have s2 := same_nw s1 hT (o := .tup [V.int (i : Nat), V.ref t])
      refine ⟨Ta, _, rfl, SqT.of upd_same, rfl, _, _, rfl, _, _, rfl, rfl, ?_⟩
      refine ⟨_, rfl, _, rfl, q, t, a, b, e.1, e.2, rfl, s2 _ _ hq, s2 _ _ he2, g1, g2, g3, fun H3 s3 => ?_⟩
      have s4 := s2.trans s3
      refine ⟨true, rfl, iteF ?_⟩
      refine ⟨_, rfl, _, _, rfl, rfl, _, rfl, ?_⟩
      have hfin : ∃ v2 v3 : Option V, ([some (.ref q), some (.ref l), some (.int (i : Nat)), some (.ref t)] : L2.St) = [some (.ref q), some (.ref l), v2, v3] ∧ Same H H3 := ⟨_, _, rfl, s4⟩
      refine ite2 (fun hc => ?_) (fun hc => iteF hfin)
      have hipos : 0 < i := by
        have := of_decide_eq_true hc
        omega
      obtain ⟨j, rfl⟩ : ∃ j, i = j + 1 := ⟨i - 1, by omega⟩
      have hj : j < ts.length := by
        have := (List.getElem?_eq_some_iff.mp ht).1
        omega
      have ht' : ts[j]? = some ts[j] := List.getElem?_eq_getElem hj
      obtain ⟨e', he1', he2'⟩ := pq_get hts ht'
      have hasc : e'.1 < e.1 := by
        obtain ⟨b1, c1⟩ := List.getElem?_eq_some_iff.mp he1'
        obtain ⟨b2, c2⟩ := List.getElem?_eq_some_iff.mp he1
        have := List.pairwise_iff_getElem.mp good.asc j (j + 1) b1 b2 (by omega)
        rw [c1, c2] at this
        exact this
      refine ⟨_, rfl, _, rfl, _, _, rfl, rfl, l, _, _, _, rfl, rfl, SqL.of (s4 _ _ hl), atI_n (j := j) (v := .ref ts[j]) (by show ((j + 1 : Nat) : Int) - 1 = j; omega) (by rw [List.getElem?_map, ht']; rfl), ?_⟩
      refine ⟨_, _, _, _, rfl, rfl, SqT.of (s4 _ _ he2'), rfl, _, rfl, t, _, _, _, rfl, rfl, SqT.of (s4 _ _ he2), rfl, _, _, rfl, rfl, false, congrArg V.bl (decide_eq_false (by omega)), iteF hfin⟩
    · rintro σ' H' ⟨v2, v3, rfl, s1⟩
      exact k _ s1
def sp_check_starts_logs (K : PySem.W.Frag) : Sp := fun vs H Q _ => ∃ (l : Addr) (ss : List Int), vs = [.ref l] ∧ H l = some (.lst (ss.map V.int)) ∧ ss.length ≤ 40 ∧ ∀ H', Same H H' → Q .non H'
theorem sc_check_starts_logs : FnScope ["starts", "at", "start"] ["starts"] (defScope s_check_starts_logs) := ⟨rfl, rfl, rfl, by decide +kernel, rfl, by decide +kernel, by decide +kernel⟩
theorem ok_check_starts_logs {f : Addr} {fd : FuncData} (F : FunD K "check_starts" "check_starts" (defArgs s_check_starts_logs) (defBody s_check_starts_logs) (defScope s_check_starts_logs) [] [] f fd) (T : Txt K mg) (c_is_integer : C8.Cal P w K mg base 1 "is_integer" (sp_is_integer K) []) :
    FnOk P w K mg base CX0 2 f fd ["starts"] (sp_check_starts_logs K) := by
  refine F.ok sc_check_starts_logs (fun vs H Q E h => ?_) (fun cdv A outer s H vs Q E hr h => ?_)
  · obtain ⟨_, _, rfl, _⟩ := h
    rfl
  · have hu := hu_of hr
    obtain ⟨l, ss, rfl, hl, h40, k⟩ := h
    refine ⟨_, PSs.nox ((pss_cons (ps_if (PW.pt (pw_or (pt_not (pt_val (pe_callB call_isi (by rfl) T.f_isinstance (by decide +kernel) (pa_cons (pv 0) (pa_cons (pe_bltn (v := .ty "list") (by rfl) T.f_list (by decide +kernel) rfl) pa_nil))))) (pw_or1 (pt_cmpR op_gt (pe_callB call_len_seq (by rfl) T.f_len (by decide +kernel) (pa_cons (pv 0) pa_nil)) (C8.pe_gc rfl T.i_MOST_STARTS) (nomark _))))) (pss_one ps_never) pss_nil)
      (pss_one (ps_for PassesOwn.never rfl (pi_enum (by rfl) T.f_enumerate (pa_cons (pv 0) pa_nil)) (pg_tup rfl (pgs_cons (pg_name (i := 1) sc_check_starts_logs.nd rfl (by first | exact Or.inl rfl | exact Or.inr rfl)) (pgs_cons (pg_name (i := 2) sc_check_starts_logs.nd rfl (by first | exact Or.inl rfl | exact Or.inr rfl)) pgs_nil))) (pss_one (ps_if (pt_not (pt_val (C8.pe_c c_is_integer hr (by decide) (by rfl) (pa_cons (pv 2) pa_nil)))) (pss_one ps_never) pss_nil)))))), ?_⟩
    have hlen : (ss.map V.int).length = ss.length := by rw [List.length_map]
    refine ⟨_, rfl, _, _, _, _, true, rfl, .ty _, .base (.lst hl), kit_ty (by decide +kernel), true, rfl, iteF ?_⟩
    refine ⟨_, rfl, l, _, rfl, .inl (SqL.of hl), _, _, rfl, rfl, false, congrArg V.bl (decide_eq_false (by omega)), iteF ?_⟩
    refine ⟨_, rfl, l, _, rfl, SqL.of hl, for_it (walk_enum (K := K) (a := l) (xs := ss.map V.int)) (fun i σ' H' => ∃ v2 v3 : Option V, σ' = [some (.ref l), v2, v3] ∧ Same H H')
      ⟨none, none, rfl, Same.refl _⟩ (fun i σ' H' _ ⟨_, _, _, s1⟩ => s1.seq (SqL.of hl)) ?_ ?_⟩
    · rintro i x σ' H1 H2 hi ⟨v2, v3, rfl, s1⟩ ⟨Ta, x1, y1, rfl, hT, rfl, hx1, hy1⟩
      have ex1 : x1 = .int (i : Nat) := (Option.some.inj hx1).symm
      subst ex1
      have hy2 : (ss.map V.int)[i]? = some y1 := hy1
      rw [List.getElem?_map] at hy2
      obtain ⟨z, hz, rfl⟩ := Option.map_eq_some_iff.mp hy2
      refine ⟨Ta, _, rfl, SqT.of upd_same, rfl, _, _, rfl, _, _, rfl, rfl, ?_⟩
      exact ⟨_, rfl, z, rfl, true, rfl, iteF ⟨_, _, rfl, same_nw s1 hT⟩⟩
    · rintro σ' H' ⟨v2, v3, rfl, s1⟩
      exact k _ s1
def sp_check_starts_scenes (K : PySem.W.Frag) : Sp := fun vs H Q _ => ∃ (l : Addr) (ss : List Int), vs = [.ref l] ∧ H l = some (.lst (ss.map V.int)) ∧ 1 ≤ ss.length ∧ ss.length ≤ 40 ∧ ∀ H', Same H H' → Q .non H'
theorem sc_check_starts_scenes : FnScope ["starts", "at", "start"] ["starts"] (defScope s_check_starts_scenes) := ⟨rfl, rfl, rfl, by decide +kernel, rfl, by decide +kernel, by decide +kernel⟩
theorem ok_check_starts_scenes {f : Addr} {fd : FuncData} (F : FunD K "check_starts" "check_starts" (defArgs s_check_starts_scenes) (defBody s_check_starts_scenes) (defScope s_check_starts_scenes) [] [] f fd) (T : Txt K mg) (c_is_integer : C8.Cal P w K mg base 1 "is_integer" (sp_is_integer K) []) :
    FnOk P w K mg base CX0 2 f fd ["starts"] (sp_check_starts_scenes K) := by
  refine F.ok sc_check_starts_scenes (fun vs H Q E h => ?_) (fun cdv A outer s H vs Q E hr h => ?_)
  · obtain ⟨_, _, rfl, _⟩ := h
    rfl
  · have hu := hu_of hr
    obtain ⟨l, ss, rfl, hl, h1, h40, k⟩ := h
    refine ⟨_, PSs.nox ((pss_cons (ps_if (PW.pt (pw_or (pt_not (pt_val (pe_callB call_isi (by rfl) T.f_isinstance (by decide +kernel) (pa_cons (pv 0) (pa_cons (pe_bltn (v := .ty "list") (by rfl) T.f_list (by decide +kernel) rfl) pa_nil))))) (pw_or1 (pt_not (pt_chain op_le op_le pe_int (pe_callB call_len_seq (by rfl) T.f_len (by decide +kernel) (pa_cons (pv 0) pa_nil)) (C8.pe_gc rfl T.i_MOST_CLIENTS)))))) (pss_one ps_never) pss_nil)
      (pss_one (ps_for PassesOwn.never rfl (pi_enum (by rfl) T.f_enumerate (pa_cons (pv 0) pa_nil)) (pg_tup rfl (pgs_cons (pg_name (i := 1) sc_check_starts_scenes.nd rfl (by first | exact Or.inl rfl | exact Or.inr rfl)) (pgs_cons (pg_name (i := 2) sc_check_starts_scenes.nd rfl (by first | exact Or.inl rfl | exact Or.inr rfl)) pgs_nil))) (pss_one (ps_if (pt_not (pt_val (C8.pe_c c_is_integer hr (by decide) (by rfl) (pa_cons (pv 2) pa_nil)))) (pss_one ps_never) pss_nil)))))), ?_⟩
    have hlen : (ss.map V.int).length = ss.length := by rw [List.length_map]
    refine ⟨_, rfl, _, _, _, _, true, rfl, .ty _, .base (.lst hl), kit_ty (by decide +kernel), true, rfl, iteF ?_⟩
    refine ⟨_, rfl, l, _, rfl, .inl (SqL.of hl), _, _, rfl, rfl, true, congrArg V.bl (decide_eq_true (by omega)), iteT ⟨_, _, rfl, rfl, true, congrArg V.bl (decide_eq_true (by omega)), iteF ?_⟩⟩
    refine ⟨_, rfl, l, _, rfl, SqL.of hl, for_it (walk_enum (K := K) (a := l) (xs := ss.map V.int)) (fun i σ' H' => ∃ v2 v3 : Option V, σ' = [some (.ref l), v2, v3] ∧ Same H H')
      ⟨none, none, rfl, Same.refl _⟩ (fun i σ' H' _ ⟨_, _, _, s1⟩ => s1.seq (SqL.of hl)) ?_ ?_⟩
    · rintro i x σ' H1 H2 hi ⟨v2, v3, rfl, s1⟩ ⟨Ta, x1, y1, rfl, hT, rfl, hx1, hy1⟩
      have ex1 : x1 = .int (i : Nat) := (Option.some.inj hx1).symm
      subst ex1
      have hy2 : (ss.map V.int)[i]? = some y1 := hy1
      rw [List.getElem?_map] at hy2
      obtain ⟨z, hz, rfl⟩ := Option.map_eq_some_iff.mp hy2
      refine ⟨Ta, _, rfl, SqT.of upd_same, rfl, _, _, rfl, _, _, rfl, rfl, ?_⟩
      exact ⟨_, rfl, z, rfl, true, rfl, iteF ⟨_, _, rfl, same_nw s1 hT⟩⟩
    · rintro σ' H' ⟨v2, v3, rfl, s1⟩
      exact k _ s1
def sp_is_window (K : PySem.W.Frag) : Sp := fun vs H Q _ => ∃ (w : Addr) (a b : Int), vs = [.ref w] ∧ H w = some (.tup [.int a, .int b]) ∧ a < b ∧ Q (.bl true) H
theorem sc_is_window : FnScope ["value"] ["value"] (defScope s_is_window) := ⟨rfl, rfl, rfl, by decide +kernel, rfl, by decide +kernel, by decide +kernel⟩
theorem ok_is_window {f : Addr} {fd : FuncData} (F : FunD K "is_window" "is_window" (defArgs s_is_window) (defBody s_is_window) (defScope s_is_window) [] [] f fd) (T : Txt K mg) (c_is_integer : C8.Cal P w K mg base 1 "is_integer" (sp_is_integer K) []) :
    FnOk P w K mg base CX0 2 f fd ["value"] (sp_is_window K) := by
  refine F.ok sc_is_window (fun vs H Q E h => ?_) (fun cdv A outer s H vs Q E hr h => ?_)
  · obtain ⟨_, _, _, rfl, _⟩ := h
    rfl
  · have hu := hu_of hr
    obtain ⟨q, a, b, rfl, hq, hab, k⟩ := h
    refine ⟨_, PSs.nox ((pss_cons (ps_if (PW.pt (pw_or (pt_not (pt_val (pe_callB call_isi (by rfl) T.f_isinstance (by decide +kernel) (pa_cons (pv 0) (pa_cons (pe_bltn (v := .ty "tuple") (by rfl) T.f_tuple (by decide +kernel) rfl) pa_nil))))) (pw_or1 (pt_cmpR op_ne (pe_callB call_len_seq (by rfl) T.f_len (by decide +kernel) (pa_cons (pv 0) pa_nil)) pe_int (nomark _))))) (pss_one (ps_ret pe_bl)) pss_nil)
      (pss_one (ps_ret (pe_and (C8.pe_c c_is_integer hr (by decide) (by rfl) (pa_cons (pe_ix ix_tup (pv 0) pe_int (fun _ _ => rfl)) pa_nil)) (pe_and (C8.pe_c c_is_integer hr (by decide) (by rfl) (pa_cons (pe_ix ix_tup (pv 0) pe_int (fun _ _ => rfl)) pa_nil)) (pe_one (pe_cmpR op_lt (pe_ix ix_tup (pv 0) pe_int (fun _ _ => rfl)) (pe_ix ix_tup (pv 0) pe_int (fun _ _ => rfl)) (nomark _))))))))), ?_⟩
    refine ⟨_, rfl, _, _, _, _, true, rfl, .ty _, .base (.tup hq), kit_ty (by decide +kernel), true, rfl, iteF ?_⟩
    refine ⟨_, rfl, q, _, rfl, .inr (SqT.of hq), rfl, false, rfl, iteF ?_⟩
    refine ⟨_, rfl, q, _, _, _, rfl, rfl, SqT.of hq, rfl, a, rfl, true, rfl, iteT ?_⟩
    refine ⟨_, rfl, q, _, _, _, rfl, rfl, SqT.of hq, rfl, b, rfl, true, rfl, iteT ?_⟩
    refine ⟨_, rfl, q, _, _, _, rfl, rfl, SqT.of hq, rfl, _, rfl, q, _, _, _, rfl, rfl, SqT.of hq, rfl, _, _, rfl, rfl, ?_⟩
    show Q (V.bl (decide (a < b))) H
    rw [decide_eq_true hab]
    exact k
def sp_check_outages (K : PySem.W.Frag) : Sp := fun vs H Q _ => ∃ (l q : Addr) (a b : Int), vs = [.ref l] ∧ H l = some (.lst [.ref q]) ∧ H q = some (.tup [.int a, .int b]) ∧ a < b ∧ ∀ H', Same H H' → Q .non H'
theorem sc_check_outages : FnScope ["outages", "at", "outage"] ["outages"] (defScope s_check_outages) := ⟨rfl, rfl, rfl, by decide +kernel, rfl, by decide +kernel, by decide +kernel⟩
theorem ok_check_outages {f : Addr} {fd : FuncData} (F : FunD K "check_outages" "check_outages" (defArgs s_check_outages) (defBody s_check_outages) (defScope s_check_outages) [] [] f fd) (T : Txt K mg) (c_is_window : C8.Cal P w K mg base 2 "is_window" (sp_is_window K) []) :
    FnOk P w K mg base CX0 3 f fd ["outages"] (sp_check_outages K) := by
  refine F.ok sc_check_outages (fun vs H Q E h => ?_) (fun cdv A outer s H vs Q E hr h => ?_)
  · obtain ⟨_, _, _, _, rfl, _⟩ := h
    rfl
  · have hu := hu_of hr
    obtain ⟨l, q, a, b, rfl, hl, hq, hab, k⟩ := h
    refine ⟨_, PSs.nox ((pss_cons (ps_if (PW.pt (pw_or (pt_not (pt_val (pe_callB call_isi (by rfl) T.f_isinstance (by decide +kernel) (pa_cons (pv 0) (pa_cons (pe_bltn (v := .ty "list") (by rfl) T.f_list (by decide +kernel) rfl) pa_nil))))) (pw_or1 (pt_cmpR op_gt (pe_callB call_len_seq (by rfl) T.f_len (by decide +kernel) (pa_cons (pv 0) pa_nil)) (C8.pe_gc rfl T.i_MOST_OUTAGES) (nomark _))))) (pss_one ps_never) pss_nil)
      (pss_one (ps_for PassesOwn.never rfl (pi_enum (by rfl) T.f_enumerate (pa_cons (pv 0) pa_nil)) (pg_tup rfl (pgs_cons (pg_name (i := 1) sc_check_outages.nd rfl (by first | exact Or.inl rfl | exact Or.inr rfl)) (pgs_cons (pg_name (i := 2) sc_check_outages.nd rfl (by first | exact Or.inl rfl | exact Or.inr rfl)) pgs_nil))) (pss_one (ps_if (PW.pt (pw_or (pt_not (pt_val (C8.pe_c c_is_window hr (by decide) (by rfl) (pa_cons (pv 2) pa_nil)))) (pw_or1 (PW.pt (pw_and (pt_cmpR op_gt (pv 1) pe_int (nomark _)) (pw_and1 (pt_cmpR op_lt (pe_ix ix_tup (pv 2) pe_int (fun _ _ => rfl)) (pe_ix ix_tup (pe_ix ix_list (pv 0) (pe_op op_sub (pv 1) pe_int) (fun _ _ => rfl)) pe_int (fun _ _ => rfl)) (nomark _)))))))) (pss_one ps_never) pss_nil)))))), ?_⟩
    refine ⟨_, rfl, _, _, _, _, true, rfl, .ty _, .base (.lst hl), kit_ty (by decide +kernel), true, rfl, iteF ?_⟩
    refine ⟨_, rfl, l, _, rfl, .inl (SqL.of hl), _, _, rfl, rfl, false, rfl, iteF ?_⟩
    refine ⟨_, rfl, l, _, rfl, SqL.of hl, for_it (walk_enum (K := K) (a := l) (xs := [V.ref q])) (fun i σ' H' => ∃ v2 v3 : Option V, σ' = [some (.ref l), v2, v3] ∧ Same H H')
      ⟨none, none, rfl, Same.refl _⟩ (fun i σ' H' _ ⟨_, _, _, s1⟩ => s1.seq (SqL.of hl)) ?_ ?_⟩
    · rintro i x σ' H1 H2 hi ⟨v2, v3, rfl, s1⟩ ⟨Ta, x1, y1, rfl, hT, rfl, hx1, hy1⟩
      have hi0 : i = 0 := by
        have : i < 1 := hi
        omega
      subst hi0
      have ex1 : x1 = .int (0 : Nat) := (Option.some.inj hx1).symm
      have ey1 : y1 = .ref q := (Option.some.inj hy1).symm
      subst ex1 ey1
      have s2 := same_nw s1 hT (o := .tup [V.int (0 : Nat), V.ref q])
      refine ⟨Ta, _, rfl, SqT.of upd_same, rfl, _, _, rfl, _, _, rfl, rfl, ?_⟩
      refine ⟨_, rfl, q, a, b, rfl, s2 _ _ hq, hab, true, rfl, iteF ?_⟩
      refine ⟨_, rfl, _, _, rfl, rfl, false, rfl, ?_⟩
      refine iteF ?_
      refine iteF ?_
      exact ⟨_, _, rfl, s2⟩
    · rintro σ' H' ⟨v2, v3, rfl, s1⟩
      exact k _ s1
end
end My
set_option Elab.async false
set_option linter.all false
set_option maxRecDepth 100000
set_option maxHeartbeats 4000000
/-! Tables of ints, logs: which slots of a window are hit how often. -/
namespace My
open PySem PySem.Spec PyProof.Rows L2
/-! ### dicts of ints -/
/-- the dict kvs holds what g says -/
def Tab (kvs : List (Key × V)) (g : Int → Option Int) : Prop := ∃ ps : List (Int × Int), kvs = ps.map kv2 ∧ (ps.map (·.1)).Nodup ∧ ∀ q, q ∈ ps ↔ g q.1 = some q.2
theorem Tab.nil : Tab [] (fun _ => none) := ⟨[], rfl, List.nodup_nil, fun q => by simp⟩
theorem valV_kv2 (s : Int) : ∀ ps : List (Int × Int), valV (ps.map kv2) (.inl s) = ((ps.find? fun q => decide (q.1 = s)).map fun q => V.int q.2)
  | [] => rfl
  | p :: r => by
    rw [List.map_cons, List.find?_cons]
    by_cases h : p.1 = s
    · rw [valV_pos (p := kv2 p) (congrArg Sum.inl h), decide_eq_true h]
      rfl
    · rw [valV_neg (p := kv2 p) (fun e => h (Sum.inl.inj e)), decide_eq_false h]
      exact valV_kv2 s r
theorem Tab.get {kvs : List (Key × V)} {g : Int → Option Int} (h : Tab kvs g) (s : Int) : valV kvs (.inl s) = (g s).map V.int := by
  obtain ⟨ps, rfl, nd, mem⟩ := h
  rw [valV_kv2]
  cases e : ps.find? fun q => decide (q.1 = s) with
  | some q =>
    have h1 := List.find?_some e
    have h2 := List.mem_of_find?_eq_some e
    simp only [decide_eq_true_eq] at h1
    have := (mem q).mp h2
    rw [← h1, this]
    rfl
  | none =>
    cases f : g s with
    | none => rfl
    | some c =>
      have h1 := (mem (s, c)).mpr f
      have h2 := List.find?_eq_none.mp e _ h1
      simp at h2
theorem putK_kv2 (s c : Int) (ps : List (Int × Int)) : putK (ps.map kv2) (.inl s) (.int c) = (if (ps.any fun q => decide (q.1 = s)) = true then ps.map (fun q => if q.1 = s then (q.1, c) else q) else ps ++ [(s, c)]).map kv2 := by
  have hany : ((ps.map kv2).any fun kv => decide (kv.1 = Sum.inl s)) = (ps.any fun q => decide (q.1 = s)) := by
    rw [List.any_map]
    congr 1
    funext q
    show decide (Sum.inl q.1 = Sum.inl s) = decide (q.1 = s)
    by_cases h : q.1 = s
    · rw [decide_eq_true h, decide_eq_true (congrArg Sum.inl h)]
    · rw [decide_eq_false h, decide_eq_false fun e => h (Sum.inl.inj e)]
  unfold putK
  rw [hany]
  split
  · rw [List.map_map, List.map_map]
    congr 1
    funext q
    show (if (kv2 q).1 = Sum.inl s then ((kv2 q).1, V.int c) else kv2 q) = kv2 (if q.1 = s then (q.1, c) else q)
    by_cases h : q.1 = s
    · rw [if_pos h, if_pos (congrArg Sum.inl h)]
    · rw [if_neg h, if_neg fun e => h (Sum.inl.inj e)]
  · rw [List.map_append]
    rfl
theorem Tab.put {kvs : List (Key × V)} {g : Int → Option Int} (h : Tab kvs g) (s c : Int) : Tab (putK kvs (.inl s) (.int c)) (fun j => if j = s then some c else g j) := by
  obtain ⟨ps, rfl, nd, mem⟩ := h
  refine ⟨_, putK_kv2 s c ps, ?_, ?_⟩
  · split
    · rw [List.map_map]
      have e : ((fun q : Int × Int => q.1) ∘ fun q : Int × Int => if q.1 = s then (q.1, c) else q) = fun q => q.1 := by
        funext q
        show (if q.1 = s then (q.1, c) else q).1 = q.1
        split <;> rfl
      rw [e]
      exact nd
    · rename_i hn
      rw [List.map_append]
      refine List.nodup_append.mpr ⟨nd, by simp, ?_⟩
      intro a ha b hb hab
      simp at hb
      obtain ⟨q, hq, rfl⟩ := List.mem_map.mp ha
      exact hn (List.any_eq_true.mpr ⟨q, hq, decide_eq_true (hab.trans hb)⟩)
  · intro q
    show _ ↔ (if q.1 = s then some c else g q.1) = some q.2
    split
    · rename_i hy
      rw [List.mem_map]
      obtain ⟨q0, hq0, h0⟩ := List.any_eq_true.mp hy
      simp only [decide_eq_true_eq] at h0
      constructor
      · rintro ⟨z, hz, rfl⟩
        by_cases h : z.1 = s
        · rw [if_pos h]; exact if_pos h
        · rw [if_neg h, if_neg h]; exact (mem z).mp hz
      · intro hq
        by_cases h : q.1 = s
        · rw [if_pos h] at hq
          refine ⟨q0, hq0, ?_⟩
          rw [if_pos h0, h0, ← h]
          injection hq with hq
          rw [hq]
        · rw [if_neg h] at hq
          refine ⟨q, (mem q).mpr hq, ?_⟩
          rw [if_neg h]
    · rename_i hn
      rw [List.mem_append, List.mem_singleton]
      constructor
      · rintro (hz | rfl)
        · have h : q.1 ≠ s := fun h => hn (List.any_eq_true.mpr ⟨q, hz, decide_eq_true h⟩)
          rw [if_neg h]; exact (mem q).mp hz
        · exact if_pos rfl
      · intro hq
        by_cases h : q.1 = s
        · rw [if_pos h] at hq
          injection hq with hq
          exact .inr (Prod.ext h hq.symm)
        · rw [if_neg h] at hq
          exact .inl ((mem q).mpr hq)
theorem Tab.congr {kvs : List (Key × V)} {g g' : Int → Option Int} (h : Tab kvs g) (e : ∀ s, g s = g' s) : Tab kvs g' := by
  have : g = g' := funext e
  rwa [← this]
/-- different ints of a stretch -/
theorem nodup_in (a : Int) : ∀ (n : Nat) {xs : List Int}, xs.Nodup → (∀ x ∈ xs, a ≤ x ∧ x < a + n) → xs.length ≤ n
  | 0, xs, h, hx => by
    cases xs with
    | nil => exact Nat.le_refl _
    | cons x xs =>
      have := hx x (List.mem_cons_self ..)
      omega
  | n + 1, xs, h, hx => by
    have h1 := nodup_in a n (xs := xs.erase (a + n)) (h.erase _) fun x hm => by
      have h2 := (h.mem_erase_iff).mp hm
      have h3 := hx x h2.2
      have h4 := h2.1
      omega
    rw [List.length_erase] at h1
    split at h1 <;> omega
theorem Tab.size {kvs : List (Key × V)} {g : Int → Option Int} (h : Tab kvs g) {a : Int} {n : Nat} (hg : ∀ s, g s ≠ none → a ≤ s ∧ s < a + n) : kvs.length ≤ n := by
  obtain ⟨ps, rfl, nd, mem⟩ := h
  rw [List.length_map]
  have := nodup_in a n nd fun x hx => by
    obtain ⟨q, hq, rfl⟩ := List.mem_map.mp hx
    refine hg _ ?_
    rw [(mem q).mp hq]
    exact Option.some_ne_none _
  rwa [List.length_map] at this
/-! ### counts -/
def posO (n : Nat) : Option Int := if n = 0 then none else some n
theorem posO_get (n : Nat) : ((posO n).map V.int).getD (V.int 0) = V.int n := by
  unfold posO
  split
  · rename_i h; rw [h]; rfl
  · rfl
def win (a b : Int) (f : Int → Nat) (s : Int) : Nat := if a ≤ s ∧ s < b then f s else 0
def cnt (R : Ru) (ss : List Int) (s : Int) : Nat := ss.countP fun x => R.hit (s - x)
theorem cnt_snoc (R : Ru) (ss : List Int) (x s : Int) : cnt R (ss ++ [x]) s = cnt R ss s + (if R.hit (s - x) = true then 1 else 0) := by
  unfold cnt
  rw [List.countP_append, List.countP_singleton]
theorem cnt_append (R : Ru) (xs ys : List Int) (s : Int) : cnt R (xs ++ ys) s = cnt R xs s + cnt R ys s := List.countP_append
/-- the slots of a window that a start's attempts hit -/
structure InSlots (R : Ru) (a b x : Int) (xs : List Int) : Prop where
  asc : xs.Pairwise (· < ·)
  mem : ∀ s, s ∈ xs ↔ (a ≤ s ∧ s < b) ∧ R.hit (s - x) = true
theorem InSlots.nodup {R : Ru} {a b x : Int} {xs : List Int} (h : InSlots R a b x xs) : xs.Nodup := h.asc.imp fun q e => by omega
theorem InSlots.count {R : Ru} {a b x : Int} {xs : List Int} (h : InSlots R a b x xs) (s : Int) : xs.count s = if a ≤ s ∧ s < b then (if R.hit (s - x) = true then 1 else 0) else 0 := by
  have nd := h.nodup
  by_cases hm : s ∈ xs
  · have h1 := (h.mem s).mp hm
    rw [if_pos h1.1, if_pos h1.2]
    have h2 := List.nodup_iff_count.mp nd s
    have h3 := List.count_pos_iff.mpr hm
    omega
  · rw [List.count_eq_zero.mpr hm]
    split
    · rename_i h1
      rw [if_neg fun h2 => hm ((h.mem s).mpr ⟨h1, h2⟩)]
    · rfl
/-- the log of counts c in a window -/
structure IsLog (a b : Int) (c : Int → Nat) (ps : List (Int × Int)) : Prop where
  asc : ps.Pairwise fun x y => x.1 < y.1
  mem : ∀ q : Int × Int, q ∈ ps ↔ (a ≤ q.1 ∧ q.1 < b) ∧ 0 < c q.1 ∧ q.2 = c q.1
theorem asc_eq : ∀ {ps qs : List (Int × Int)}, (ps.Pairwise fun x y => x.1 < y.1) → (qs.Pairwise fun x y => x.1 < y.1) → (∀ q, q ∈ ps ↔ q ∈ qs) → ps = qs
  | [], [], _, _, _ => rfl
  | [], q :: qs, _, _, h => by have := (h q).mpr (List.mem_cons_self ..); cases this
  | p :: ps, [], _, _, h => by have := (h p).mp (List.mem_cons_self ..); cases this
  | p :: ps, q :: qs, h1, h2, h => by
    rw [List.pairwise_cons] at h1 h2
    have e : p = q := by
      rcases List.mem_cons.mp ((h p).mp (List.mem_cons_self ..)) with e | m
      · exact e
      · rcases List.mem_cons.mp ((h q).mpr (List.mem_cons_self ..)) with e | m2
        · exact e.symm
        · have a1 := h2.1 p m
          have a2 := h1.1 q m2
          omega
    subst e
    rw [asc_eq h1.2 h2.2 fun z => ?_]
    constructor
    · intro hz
      rcases List.mem_cons.mp ((h z).mp (List.mem_cons_of_mem _ hz)) with e | m
      · have := h1.1 z hz; rw [e] at this; omega
      · exact m
    · intro hz
      rcases List.mem_cons.mp ((h z).mpr (List.mem_cons_of_mem _ hz)) with e | m
      · have := h2.1 z hz; rw [e] at this; omega
      · exact m
theorem IsLog.eq {a b : Int} {c : Int → Nat} {ps qs : List (Int × Int)} (h1 : IsLog a b c ps) (h2 : IsLog a b c qs) : ps = qs :=
  asc_eq h1.asc h2.asc fun q => (h1.mem q).trans (h2.mem q).symm
theorem asc_nodup {ps : List (Int × Int)} (h : ps.Pairwise fun x y => x.1 < y.1) : (ps.map (·.1)).Nodup := by
  rw [List.nodup_iff_pairwise_ne, List.pairwise_map]
  exact h.imp fun q e => by omega
theorem posO_win {a b : Int} {c : Int → Nat} {s z : Int} : posO (win a b c s) = some z ↔ (a ≤ s ∧ s < b) ∧ 0 < c s ∧ z = c s := by
  unfold posO win
  by_cases h : a ≤ s ∧ s < b
  · rw [if_pos h]
    by_cases h0 : c s = 0
    · rw [if_pos h0]
      exact ⟨fun e => (by cases e), fun e => by omega⟩
    · rw [if_neg h0]
      exact ⟨fun e => ⟨h, by omega, (Option.some.inj e).symm⟩, fun e => by rw [e.2.2]⟩
  · rw [if_neg h, if_pos rfl]
    exact ⟨fun e => (by cases e), fun e => absurd e.1 h⟩
theorem IsLog.tab {a b : Int} {c : Int → Nat} {ps : List (Int × Int)} (h : IsLog a b c ps) : Tab (ps.map kv2) (fun s => posO (win a b c s)) :=
  ⟨ps, rfl, asc_nodup h.asc, fun q => (h.mem q).trans posO_win.symm⟩
/-- pairs sorted, of a table -/
theorem Tab.log {kvs : List (Key × V)} {a b : Int} {c : Int → Nat} (h : Tab kvs (fun s => posO (win a b c s))) : ∃ ps : List (Int × Int), kvs = ps.map kv2 ∧
    ∀ qs : List (Int × Int), qs.Perm ps → qs.Pairwise (fun x y => x.1 < y.1 ∨ (x.1 = y.1 ∧ x.2 ≤ y.2)) → IsLog a b c qs := by
  obtain ⟨ps, rfl, nd, mem⟩ := h
  refine ⟨ps, rfl, fun qs hp hs => ⟨?_, fun q => ?_⟩⟩
  · have nd2 : (qs.map (·.1)).Nodup := (hp.map _).nodup_iff.mpr nd
    rw [List.nodup_iff_pairwise_ne, List.pairwise_map] at nd2
    exact (List.pairwise_and_iff.mpr ⟨hs, nd2⟩).imp fun ⟨h1, h2⟩ => by
      rcases h1 with h1 | h1
      · exact h1
      · exact absurd h1.1 h2
  · rw [hp.mem_iff, mem q]
    exact posO_win
theorem IsLog.len {a b : Int} {c : Int → Nat} {ps : List (Int × Int)} (h : IsLog a b c ps) : ps.length ≤ (b - a).toNat := by
  have := nodup_in a (b - a).toNat (asc_nodup h.asc) fun x hx => by
    obtain ⟨q, hq, rfl⟩ := List.mem_map.mp hx
    have := ((h.mem q).mp hq).1
    omega
  rwa [List.length_map] at this
theorem merge_kv2 : ∀ (ps : List (Int × Int)) (acc : List (Int × Int)), ((acc ++ ps).map (·.1)).Nodup → mergeK (acc.map kv2) (ps.map kv2) = (acc ++ ps).map kv2
  | [], acc, _ => by rw [List.append_nil]; rfl
  | p :: ps, acc, h => by
    have e : mergeK (acc.map kv2) ((p :: ps).map kv2) = mergeK (putK (acc.map kv2) (.inl p.1) (.int p.2)) (ps.map kv2) := rfl
    have hn : ¬ (acc.any fun q => decide (q.1 = p.1)) = true := by
      intro q
      obtain ⟨z, hz, hz2⟩ := List.any_eq_true.mp q
      simp only [decide_eq_true_eq] at hz2
      rw [List.map_append] at h
      exact (List.nodup_append.mp h).2.2 z.1 (List.mem_map_of_mem hz) p.1 (by simp) hz2
    rw [e, putK_kv2, if_neg hn, merge_kv2 ps (acc ++ [(p.1, p.2)]) (by simpa using h)]
    simp
theorem IsLog.merge {a b : Int} {c : Int → Nat} {ps : List (Int × Int)} (h : IsLog a b c ps) : mergeK [] (ps.map kv2) = ps.map kv2 := merge_kv2 ps [] (asc_nodup h.asc)
theorem IsLog.mono {a b : Int} {c c' : Int → Nat} {ps : List (Int × Int)} (h : IsLog a b c ps) (e : ∀ s, a ≤ s → s < b → c s = c' s) : IsLog a b c' ps := by
  refine ⟨h.asc, fun q => (h.mem q).trans ?_⟩
  constructor
  · rintro ⟨h1, h2, h3⟩; rw [e _ h1.1 h1.2] at h2 h3; exact ⟨h1, h2, h3⟩
  · rintro ⟨h1, h2, h3⟩; rw [← e _ h1.1 h1.2] at h2 h3; exact ⟨h1, h2, h3⟩
/-! ### taking one log from another -/
def tot (ps : List (Int × Int)) (s : Int) : Int := ((ps.filter fun q => decide (q.1 = s)).map (·.2)).sum
theorem tot_nil (s : Int) : tot [] s = 0 := rfl
theorem tot_snoc (ps : List (Int × Int)) (q : Int × Int) (s : Int) : tot (ps ++ [q]) s = tot ps s + (if s = q.1 then q.2 else 0) := by
  unfold tot
  rw [List.filter_append, List.map_append, List.sum_append]
  congr 1
  rw [List.filter_cons, List.filter_nil]
  by_cases h : q.1 = s
  · rw [if_pos (decide_eq_true h), if_pos h.symm]; simp
  · rw [if_neg (by simp [h]), if_neg fun e => h e.symm]; simp
theorem tot_none {ps : List (Int × Int)} {s : Int} (h : ∀ q ∈ ps, q.1 ≠ s) : tot ps s = 0 := by
  unfold tot
  rw [List.filter_eq_nil_iff.mpr fun q hq => by simp [h q hq]]
  rfl
theorem tot_one : ∀ {ps : List (Int × Int)} {s c : Int}, (ps.Pairwise fun x y => x.1 < y.1) → (s, c) ∈ ps → tot ps s = c
  | p :: ps, s, c, h, hm => by
    rw [List.pairwise_cons] at h
    have e : tot (p :: ps) s = (if s = p.1 then p.2 else 0) + tot ps s := by
      unfold tot
      rw [List.filter_cons]
      by_cases q : p.1 = s
      · rw [if_pos (decide_eq_true q), if_pos q.symm]; simp
      · rw [if_neg (by simp [q]), if_neg fun z => q z.symm]; simp
    rw [e]
    rcases List.mem_cons.mp hm with q | q
    · subst q
      rw [if_pos rfl, tot_none fun z hz => by have := h.1 z hz; dsimp only at this; omega]
      exact Int.add_zero _
    · have := h.1 _ q
      rw [if_neg (by dsimp only at this; omega), tot_one h.2 q]
      exact Int.zero_add _
theorem IsLog.tot {a b : Int} {c : Int → Nat} {ps : List (Int × Int)} (h : IsLog a b c ps) (s : Int) : tot ps s = win a b c s := by
  unfold win
  by_cases hs : (a ≤ s ∧ s < b) ∧ 0 < c s
  · rw [if_pos hs.1]
    exact tot_one h.asc ((h.mem (s, (c s : Int))).mpr ⟨hs.1, hs.2, rfl⟩)
  · rw [tot_none fun q hq e => by rw [← e] at hs; exact hs ⟨((h.mem q).mp hq).1, ((h.mem q).mp hq).2.1⟩]
    split
    · rename_i h1
      have : c s = 0 := by
        rcases Nat.eq_zero_or_pos (c s) with e | e
        · exact e
        · exact absurd ⟨h1, e⟩ hs
      rw [this]; rfl
    · rfl
end My
set_option Elab.async false
set_option linter.all false
set_option maxRecDepth 100000
set_option maxHeartbeats 4000000
namespace My
open PySem PySem.Spec PyProof.Rows L2
section
variable {P : Program} {w : World} {K : PySem.W.Frag} {mg : Str → Option Value} {base : Heap}
def sp_slots_in (K : PySem.W.Frag) : Sp := fun vs H Q _ => ∃ (p q : Addr) (R : Ru) (a b x : Int), vs = [.ref p, .ref q, .int x] ∧ RuleAt K H p R ∧ H q = some (.tup [.int a, .int b]) ∧ b - a ≤ 100 ∧ a ≤ b ∧ (∀ t, R.t = .tim t → b - x ≤ 2 ^ 40) ∧
  ∀ l xs H', Same H H' → H' l = some (.lst (xs.map V.int)) → InSlots R a b x xs → Q (.ref l) H'
/-- what slots_in has found when the attempt o is next -/
structure Found (R : Ru) (a b x : Int) (o : Option Nat) (xs : List Int) : Prop where
  asc : xs.Pairwise (· < ·)
  mem : ∀ s, s ∈ xs ↔ (a ≤ s ∧ s < b) ∧ ∃ k, R.has k = true ∧ x + R.off k = s ∧ ∀ k', o = some k' → k < k'
  nxt : ∀ k', o = some k' → R.has k' = true ∧ a ≤ x + R.off k' ∧ ∀ i, i < k' → x + R.off i < b
theorem Found.done {R : Ru} (ok : R.Ok) {a b x : Int} {o : Option Nat} {xs : List Int} (h : Found R a b x o xs) (he : ∀ k', o = some k' → b ≤ x + R.off k') : InSlots R a b x xs := by
  refine ⟨h.asc, fun s => (h.mem s).trans ?_⟩
  rw [Ru.hit_iff ok]
  constructor
  · rintro ⟨h1, k, h2, h3, h4⟩
    exact ⟨h1, k, h2, by omega⟩
  · rintro ⟨h1, k, h2, h3⟩
    refine ⟨h1, k, h2, by omega, fun k' e => ?_⟩
    have h5 := he k' e
    rcases Nat.lt_or_ge k k' with q | q
    · exact q
    · have := Ru.off_le ok q
      omega
theorem Found.first {R : Ru} (ok : R.Ok) {a b x : Int} (hab : a ≤ b) : Found R a b x (R.first (a - x)) [] := by
  refine ⟨.nil, fun s => ⟨fun h => absurd h List.not_mem_nil, ?_⟩, fun k' e => ?_⟩
  · rintro ⟨h1, k, h2, h3, h4⟩
    exfalso
    cases e : R.first (a - x) with
    | none =>
      have := (Ru.first_none ok).mp e k h2
      omega
    | some k' =>
      obtain ⟨e1, e2, e3⟩ := (Ru.first_some ok).mp e
      have h5 := e3 k (h4 k' e)
      omega
  · obtain ⟨e1, e2, e3⟩ := (Ru.first_some ok).mp e
    refine ⟨e1, by omega, fun i hi => ?_⟩
    have := e3 i hi
    omega
theorem Found.step {R : Ru} (ok : R.Ok) {a b x : Int} {k : Nat} {xs : List Int} (h : Found R a b x (some k) xs) (hb : x + R.off k < b) : Found R a b x (if R.has (k + 1) = true then some (k + 1) else none) (xs ++ [x + R.off k]) := by
  obtain ⟨n1, n2, n3⟩ := h.nxt k rfl
  refine ⟨?_, fun s => ?_, fun k' e => ?_⟩
  · rw [List.pairwise_append]
    refine ⟨h.asc, List.pairwise_singleton .., fun y hy z hz => ?_⟩
    rw [List.mem_singleton] at hz
    obtain ⟨_, k2, _, q3, q4⟩ := (h.mem y).mp hy
    have := Ru.off_lt ok (q4 k rfl)
    omega
  · rw [List.mem_append, List.mem_singleton, h.mem s]
    constructor
    · rintro (⟨h1, k2, h2, h3, h4⟩ | rfl)
      · refine ⟨h1, k2, h2, h3, fun k' e => ?_⟩
        have := h4 k rfl
        split at e
        · cases e; omega
        · cases e
      · refine ⟨⟨n2, hb⟩, k, n1, rfl, fun k' e => ?_⟩
        split at e
        · cases e; omega
        · cases e
    · rintro ⟨h1, k2, h2, h3, h4⟩
      rcases Nat.lt_trichotomy k2 k with g | g | g
      · exact .inl ⟨h1, k2, h2, h3, fun k' e => by cases e; exact g⟩
      · subst g; exact .inr h3.symm
      · exfalso
        have hh : R.has (k + 1) = true := Ru.has_le h2 (by omega)
        have := h4 (k + 1) (if_pos hh)
        omega
  · split at e
    · rename_i hh
      cases e
      have := Ru.off_lt ok (show k < k + 1 by omega)
      refine ⟨hh, by omega, fun i hi => ?_⟩
      rcases Nat.lt_or_eq_of_le (Nat.le_of_lt_succ hi) with q | q
      · exact n3 i q
      · rw [q]; exact hb
    · cases e
theorem Found.len {R : Ru} {a b x : Int} {o : Option Nat} {xs : List Int} (h : Found R a b x o xs) (hab : b - a ≤ 100) : xs.length ≤ 100 := by
  have := nodup_in a 100 (h.asc.imp fun q e => by omega) fun y hy => by
    have := ((h.mem y).mp hy).1
    omega
  exact this
theorem lim_eq (R : Ru) (k : Nat) (h : R.has k = true) : decide (V.int ((k + 1 : Nat) : Int) = R.lim) = !R.has (k + 1) := by
  unfold Ru.lim
  by_cases e : R.t = .fin
  · rw [if_pos e, Ru.has_fin e]
    rw [Ru.has_fin e] at h
    have h1 := of_decide_eq_true h
    by_cases q : k = R.n
    · subst q
      rw [decide_eq_true rfl, decide_eq_false (by omega)]
      rfl
    · rw [decide_eq_false (fun z => by injection z with z; omega), decide_eq_true (by omega)]
      rfl
  · rw [if_neg e, Ru.has_inf e]
    exact decide_eq_false (fun z => by cases z)
theorem lim_scal (R : Ru) (i : Int) : scal (.int i) R.lim = true := by
  unfold Ru.lim
  split <;> rfl
def measF (R : Ru) (b x : Int) : Option Nat → Nat
  | none => 0
  | some k => (b - x - R.off k).toNat + 1
theorem sc_slots_in : FnScope ["rule", "window", "start", "attempt", "found"] ["rule", "window", "start"] (defScope s_slots_in) := ⟨rfl, rfl, rfl, by decide +kernel, rfl, by decide +kernel, by decide +kernel⟩
theorem ok_slots_in {f : Addr} {fd : FuncData} (F : FunD K "slots_in" "slots_in" (defArgs s_slots_in) (defBody s_slots_in) (defScope s_slots_in) [] [] f fd) (T : Txt K mg) (c_R_attempts : C8.Met P w K mg base 1 (cR K) "attempts" (sp_Rule_attempts K) []) (c_R_first_from : C8.Met P w K mg base 3 (cR K) "first_from" (sp_Rule_first_from K) []) (c_R_offset_of : C8.Met P w K mg base 2 (cR K) "offset_of" (sp_Rule_offset_of K) []) :
    FnOk P w K mg base CX0 4 f fd ["rule", "window", "start"] (sp_slots_in K) := by
  refine F.ok sc_slots_in (fun vs H Q E h => ?_) (fun cdv A outer s H vs Q E hr h => ?_)
  · obtain ⟨_, _, _, _, _, _, rfl, _⟩ := h
    rfl
  · have hu := hu_of hr
    obtain ⟨p, q, R, a, b, x, rfl, hR, hq, h100, hab, hlim, k⟩ := h
    have ok := hR.ok
    refine ⟨_, PSs.nox ((pss_cons (ps_set (i := 3) sc_slots_in.nd rfl (by first | exact Or.inl rfl | exact Or.inr rfl) (pe_m c_R_first_from hr (by decide) (pv 0) (pa_cons (pe_op op_sub (pe_ix ix_tup (pv 1) pe_int (fun _ _ => rfl)) (pv 2)) pa_nil)))
      (pss_cons (ps_set (i := 4) sc_slots_in.nd rfl (by first | exact Or.inl rfl | exact Or.inr rfl) (pe_lst pa_nil))
      (pss_cons (ps_while PassesOwn.never (PW.pt (pw_and (pt_cmpR op_notN (pv 3) pe_non (nomark _)) (pw_and (pt_cmpR op_lt (pe_op op_add (pv 2) (pe_m c_R_offset_of hr (by decide) (pv 0) (pa_cons (pv 3) pa_nil))) (pe_ix ix_tup (pv 1) pe_int (fun _ _ => rfl)) (nomark _)) (pw_and1 (pt_cmpR op_le (pe_callB call_len_seq (by rfl) T.f_len (by decide +kernel) (pa_cons (pv 4) pa_nil)) (C8.pe_gc rfl T.i_MOST_ENTRIES) (nomark _)))))) (pss_cons (ps_expr (pe_bm PySem.F.plainAttrs_list PySem.F.slot_list_append PySem.F.type_list_append mt_append (pv 4) (pa_cons (pe_op op_add (pv 2) (pe_m c_R_offset_of hr (by decide) (pv 0) (pa_cons (pv 3) pa_nil))) pa_nil)))
      (pss_cons (ps_set (i := 3) sc_slots_in.nd rfl (by first | exact Or.inl rfl | exact Or.inr rfl) (pe_op op_add (pv 3) pe_int))
      (pss_one (ps_if (pt_cmpR op_eq (pv 3) (pe_m0 c_R_attempts hr (by decide) (pv 0)) (nomark _)) (pss_one (ps_set (i := 3) sc_slots_in.nd rfl (by first | exact Or.inl rfl | exact Or.inr rfl) pe_non)) pss_nil)))))
      (pss_one (ps_ret (pv 4))))))), ?_⟩
    refine ⟨_, rfl, hR.md mR_first_from, _, rfl, q, _, _, _, rfl, rfl, SqT.of hq, rfl, _, rfl, _, _, rfl, rfl, p, R, a - x, rfl, hR, fun t e => (by have := hlim t e; omega), fun H1 s1 => ?_⟩
    refine ⟨by show 0 ≤ sizeLine; decide, fun l hl => ?_⟩
    have nn := fun b u (hb : H1 b = some u) => ne_of_none hb hl
    refine ⟨fun m σ' H' => ∃ o xs, σ' = [some (.ref p), some (.ref q), some (.int x), some (optV o), some (.ref l)] ∧ Same H H' ∧ H' l = some (.lst (xs.map V.int)) ∧ Found R a b x o xs ∧ m = measF R b x o,
      ⟨_, R.first (a - x), [], rfl, s1.trans (same_new hl), upd_same, Found.first ok hab, rfl⟩, ?_⟩
    rintro m σ' H' ⟨o, xs, rfl, s2, hl2, inv, rfl⟩
    cases o with
    | none =>
      refine ⟨_, rfl, rfl, false, rfl, ?_⟩
      refine iteF ?_
      refine iteF ?_
      exact ⟨_, rfl, k l xs H' s2 hl2 (inv.done ok fun k' e => by cases e)⟩
    | some a0 =>
      obtain ⟨n1, n2, n3⟩ := inv.nxt a0 rfl
      have hlen := inv.len h100
      have lid : ∀ t, R.t = .tim t → a0 ≤ R.n + 63 := fun t e => by
        have := Ru.lid ok e (d := b - x) (hlim t e) (a := a0) fun i hi => by have := n3 i hi; omega
        omega
      have hR2 := hR.mono s2
      refine ⟨_, rfl, rfl, true, rfl, ?_⟩
      refine iteT ?_
      refine ⟨_, rfl, _, rfl, hR2.md mR_offset_of, _, rfl, p, R, a0, rfl, hR2, n1, lid, _, _, rfl, rfl, _, rfl, q, _, _, _, rfl, rfl, SqT.of (s2 _ _ hq), rfl, _, _, rfl, rfl, _, rfl, ?_⟩
      refine ite2 (fun hc => ?_) (fun hc => ?_)
      · have hlt := of_decide_eq_true hc
        refine ⟨_, rfl, l, _, rfl, .inl (SqL.of hl2), _, _, rfl, rfl, true, congrArg V.bl (decide_eq_true (by rw [List.length_map]; omega)), iteT ?_⟩
        refine ⟨fun σ2 H2 => ∃ o xs, σ2 = [some (.ref p), some (.ref q), some (.int x), some (optV o), some (.ref l)] ∧ Same H H2 ∧ H2 l = some (.lst (xs.map V.int)) ∧ Found R a b x o xs ∧ measF R b x o < measF R b x (some a0),
          fun σ2 H2 ⟨o, xs, e1, e2, e3, e4, e5⟩ => ⟨_, e5, o, xs, e1, e2, e3, e4, rfl⟩, ?_⟩
        refine ⟨_, rfl, .inl ⟨rfl, _, SqL.of hl2⟩, _, rfl, _, rfl, hR2.md mR_offset_of, _, rfl, p, R, a0, rfl, hR2, n1, lid, _, _, rfl, rfl, l, _, _, rfl, rfl, hl2, szLt (by rw [List.length_map]; omega), ?_⟩
        have hf := inv.step ok hlt
        have hup : (upd H' l (.lst (xs.map V.int ++ [V.int (x + R.off a0)]))) l = some (.lst ((xs ++ [x + R.off a0]).map V.int)) := by rw [upd_same, List.map_append]; rfl
        have hl0 : H l = none := by
          cases e : H l with
          | none => rfl
          | some u => exact absurd (s1 _ _ e) (by rw [hl]; exact fun z => by cases z)
        have s3 : Same H (upd H' l (.lst (xs.map V.int ++ [V.int (x + R.off a0)]))) := same_mu s2 hl0
        refine ⟨_, rfl, _, _, rfl, rfl, ?_⟩
        refine ⟨_, rfl, _, rfl, (hR.mono s3).md mR_attempts, p, R, rfl, hR.mono s3, lim_scal R _, _, rfl, ?_⟩
        have e1 : decide (V.int ((a0 : Int) + 1) = R.lim) = !R.has (a0 + 1) := lim_eq R a0 n1
        have hpos : 0 < b - x - R.off a0 := by omega
        show ite _ _ _
        refine ite2 (fun hc2 => ?_) (fun hc2 => ?_)
        · have hh : R.has (a0 + 1) = false := by
            have : decide (V.int ((a0 : Int) + 1) = R.lim) = true := hc2
            rw [e1] at this
            simpa using this
          rw [hh] at hf
          exact ⟨none, _, rfl, s3, hup, hf, Nat.succ_pos _⟩
        · have hh : R.has (a0 + 1) = true := by
            have : ¬ decide (V.int ((a0 : Int) + 1) = R.lim) = true := hc2
            rw [e1] at this
            simpa using this
          rw [if_pos hh] at hf
          have := Ru.off_lt ok (show a0 < a0 + 1 by omega)
          exact ⟨some (a0 + 1), _, rfl, s3, hup, hf, by show (b - x - R.off (a0 + 1)).toNat + 1 < (b - x - R.off a0).toNat + 1; omega⟩
      · refine iteF ?_
        exact ⟨_, rfl, k l xs H' s2 hl2 (inv.done ok fun k' e => by
          cases e
          exact Int.le_of_not_gt fun z => hc (decide_eq_true z))⟩
end
end My
set_option Elab.async false
set_option linter.all false
set_option maxRecDepth 100000
set_option maxHeartbeats 4000000
namespace My
open PySem PySem.Spec PyProof.Rows L2
section
variable {P : Program} {w : World} {K : PySem.W.Frag} {mg : Str → Option Value} {base : Heap}
def sp_counts_of (K : PySem.W.Frag) : Sp := fun vs H Q _ => ∃ (p q l : Addr) (R : Ru) (a b : Int) (ss : List Int), vs = [.ref p, .ref q, .ref l] ∧ RuleAt K H p R ∧ H q = some (.tup [.int a, .int b]) ∧ H l = some (.lst (ss.map V.int)) ∧ b - a ≤ 100 ∧ a ≤ b ∧
  (∀ t, R.t = .tim t → ∀ x ∈ ss, b - x ≤ 2 ^ 40) ∧ ∀ d kvs H', Same H H' → H' d = some (.dK kvs) → Tab kvs (fun s => posO (win a b (cnt R ss) s)) → Q (.ref d) H'
theorem same_mem {H H' : Hp} {l : Addr} (e : Same H H') (h : H' l = none) : H l = none := by
  cases q : H l with
  | none => rfl
  | some u => exact absurd (e _ _ q) (by rw [h]; exact fun z => by cases z)
theorem posO_zero {n : Nat} (h : n = 0) : posO n = none := if_pos h
theorem sc_counts_of : FnScope ["rule", "window", "starts", "counts", "start", "slot"] ["rule", "window", "starts"] (defScope s_counts_of) := ⟨rfl, rfl, rfl, by decide +kernel, rfl, by decide +kernel, by decide +kernel⟩
theorem ok_counts_of {f : Addr} {fd : FuncData} (F : FunD K "counts_of" "counts_of" (defArgs s_counts_of) (defBody s_counts_of) (defScope s_counts_of) [] [] f fd) (T : Txt K mg) (c_slots_in : C8.Cal P w K mg base 4 "slots_in" (sp_slots_in K) []) :
    FnOk P w K mg base CX0 5 f fd ["rule", "window", "starts"] (sp_counts_of K) := by
  refine F.ok sc_counts_of (fun vs H Q E h => ?_) (fun cdv A outer s H vs Q E hr h => ?_)
  · obtain ⟨_, _, _, _, _, _, _, rfl, _⟩ := h
    rfl
  · have hu := hu_of hr
    obtain ⟨p, q, l, R, a, b, ss, rfl, hR, hq, hl, h100, hab, hlim, k⟩ := h
    have ok := hR.ok
    refine ⟨_, PSs.nox ((pss_cons (ps_set (i := 3) sc_counts_of.nd rfl (by first | exact Or.inl rfl | exact Or.inr rfl) pe_dnewK)
      (pss_cons (ps_for PassesOwn.never rfl (pi_list (pv 2)) (pg_name (i := 4) sc_counts_of.nd rfl (by first | exact Or.inl rfl | exact Or.inr rfl)) (pss_one (ps_for PassesOwn.never rfl (pi_list (C8.pe_c c_slots_in hr (by decide) (by rfl) (pa_cons (pv 0) (pa_cons (pv 1) (pa_cons (pv 4) pa_nil))))) (pg_name (i := 5) sc_counts_of.nd rfl (by first | exact Or.inl rfl | exact Or.inr rfl)) (pss_cons (ps_dput hu (pv 3) (pv 5) (pe_op op_add (pe_dget2 hu (pv 3) (pv 5) pe_int ⟨rfl, rfl, rfl, rfl⟩) pe_int) rfl)
      (pss_one (ps_if (pt_cmpR op_gt (pe_callB call_lenD (by rfl) T.f_len (by decide +kernel) (pa_cons (pv 3) pa_nil)) (C8.pe_gc rfl T.i_MOST_ENTRIES) (nomark _)) (pss_one ps_never) pss_nil))))))
      (pss_one (ps_ret (pv 3)))))), ?_⟩
    refine fun d hd => ?_
    refine ⟨_, rfl, l, rfl, ⟨ss.map V.int, SqL.of (same_new hd _ _ hl)⟩, for_list (K := K) (a := l) (xs := ss.map V.int) (fun i σ' H' => ∃ (v4 v5 : Option V) (kvs : List (Key × V)), σ' = [some (.ref p), some (.ref q), some (.ref l), some (.ref d), v4, v5] ∧
      Same H H' ∧ H' d = some (.dK kvs) ∧ Tab kvs (fun s => posO (win a b (cnt R (ss.take i)) s))) ?_ ?_ ?_ ?_⟩
    · refine ⟨none, none, [], rfl, same_new hd, upd_same, Tab.nil.congr fun s => ?_⟩
      refine (posO_zero ?_).symm
      unfold win cnt
      split <;> rfl
    · rintro i σ' H' _ ⟨v4, v5, kvs, rfl, s1, _⟩
      exact SqL.of (s1 _ _ hl)
    · rintro j x σ' H1 hx ⟨v4, v5, kvs, rfl, s1, hd1, tab⟩
      rw [List.getElem?_map] at hx
      obtain ⟨z, hz, rfl⟩ := Option.map_eq_some_iff.mp hx
      refine ⟨_, rfl, _, rfl, _, rfl, p, q, R, a, b, z, rfl, hR.mono s1, s1 _ _ hq, h100, hab, fun t e => hlim t e z (List.mem_of_getElem? hz), fun l2 xs H2 s2 hl2 sl => ?_⟩
      have hd2 := s2 _ _ hd1
      have s12 := s1.trans s2
      have hcnt : ∀ s, win a b (cnt R (ss.take (j + 1))) s = win a b (cnt R (ss.take j)) s + xs.count s := fun s => by
        rw [sl.count]
        have e1 : ss.take (j + 1) = ss.take j ++ [z] := by rw [List.take_add_one, hz]; rfl
        unfold win
        rw [e1, cnt_snoc]
        split <;> rfl
      refine ⟨l2, rfl, ⟨xs.map V.int, SqL.of hl2⟩, for_list (K := K) (a := l2) (xs := xs.map V.int) (fun i σ' H' => ∃ (v5 : Option V) (kvs : List (Key × V)), σ' = [some (.ref p), some (.ref q), some (.ref l), some (.ref d), some (.int z), v5] ∧
        Same H H' ∧ H' l2 = some (.lst (xs.map V.int)) ∧ H' d = some (.dK kvs) ∧ Tab kvs (fun s => posO (win a b (cnt R (ss.take j)) s + (xs.take i).count s))) ?_ ?_ ?_ ?_⟩
      · exact ⟨v5, kvs, rfl, s12, hl2, hd2, tab.congr fun s => by rw [List.take_zero, List.count_nil, Nat.add_zero]⟩
      · rintro i σ' H' _ ⟨_, _, _, _, h2, _⟩
        exact SqL.of h2
      · rintro i y σ' H3 hy ⟨v5, kvs3, rfl, s3, hl3, hd3, tab3⟩
        rw [List.getElem?_map] at hy
        obtain ⟨s, hs, rfl⟩ := Option.map_eq_some_iff.mp hy
        have hval : ((valV kvs3 (.inl s)).getD (V.int 0)) = V.int ((win a b (cnt R (ss.take j)) s + (xs.take i).count s : Nat) : Int) := by
          rw [tab3.get s]
          exact posO_get _
        have hin : ∀ s', posO (win a b (cnt R (ss.take j)) s' + (xs.take i).count s') ≠ none → a ≤ s' ∧ s' < a + (100 : Nat) := fun s' h => by
          by_cases hw : a ≤ s' ∧ s' < b
          · omega
          · exfalso
            refine h (posO_zero ?_)
            unfold win
            rw [if_neg hw, Nat.zero_add]
            exact List.count_eq_zero.mpr fun hm => hw ((sl.mem s').mp (List.mem_of_mem_take hm)).1
        have hsz := tab3.size hin
        have tab4 := tab3.put s ((win a b (cnt R (ss.take j)) s + (xs.take i).count s : Nat) + 1 : Int)
        have tab5 : Tab (putK kvs3 (.inl s) (.int ((win a b (cnt R (ss.take j)) s + (xs.take i).count s : Nat) + 1 : Int))) (fun s' => posO (win a b (cnt R (ss.take j)) s' + (xs.take (i + 1)).count s')) := by
          refine tab4.congr fun s' => ?_
          have e1 : xs.take (i + 1) = xs.take i ++ [s] := by rw [List.take_add_one, hs]; rfl
          rw [e1, List.count_append, List.count_singleton]
          show (if s' = s then _ else _) = _
          by_cases e : s' = s
          · subst e
            rw [if_pos rfl, if_pos (by simp)]
            rfl
          · rw [if_neg e, if_neg (by simpa using fun z => e z.symm), Nat.add_zero]
        refine ⟨_, rfl, d, rfl, .inl ⟨_, .inl hd3⟩, _, rfl, _, DGet.k (k := .inl s) hd3, _, _, hval, rfl, _, rfl, _, rfl, d, _, rfl, .inl ⟨_, .inl s, hd3, rfl, szLt (by omega), rfl⟩, ?_⟩
        have hlen5 : (putK kvs3 (.inl s) (.int ((win a b (cnt R (ss.take j)) s + (xs.take i).count s : Nat) + 1 : Int))).length ≤ 101 := Nat.le_trans (length_putK _ _ _) (by omega)
        refine ⟨_, rfl, d, _, rfl, upd_same, _, _, rfl, rfl, false, congrArg V.bl (decide_eq_false (show ¬ ((500 : Int) < ((putK kvs3 (.inl s) (.int ((win a b (cnt R (ss.take j)) s + (xs.take i).count s : Nat) + 1 : Int))).length : Int)) by omega)), iteF ?_⟩
        refine ⟨_, _, rfl, same_mu s3 hd, ?_, upd_same, tab5⟩
        rw [upd_ne (ne_of hl3 hd3 (by intro z; cases z))]
        exact hl3
      · rintro σ' H' ⟨v5, kvs3, rfl, s3, hl3, hd3, tab3⟩
        refine ⟨_, _, kvs3, rfl, s3, hd3, tab3.congr fun s => ?_⟩
        rw [hcnt, List.length_map, List.take_length]
    · rintro σ' H' ⟨v4, v5, kvs, rfl, s1, hd1, tab⟩
      rw [List.length_map, List.take_length] at tab
      exact ⟨_, rfl, k d kvs H' s1 hd1 tab⟩
def sp_expected_log (K : PySem.W.Frag) : Sp := fun vs H Q _ => ∃ (p q l : Addr) (R : Ru) (a b : Int) (ss : List Int), vs = [.ref p, .ref q, .ref l] ∧ RuleAt K H p R ∧ H q = some (.tup [.int a, .int b]) ∧ H l = some (.lst (ss.map V.int)) ∧ b - a ≤ 100 ∧ a < b ∧ ss.length ≤ 40 ∧
  (∀ t, R.t = .tim t → ∀ x ∈ ss, b - x ≤ 2 ^ 40) ∧ ∀ d ps H', Same H H' → PairsAt H' d ps → IsLog a b (cnt R ss) ps → Q (.ref d) H'
theorem sc_expected_log : FnScope ["rule", "window", "starts"] ["rule", "window", "starts"] (defScope s_expected_log) := ⟨rfl, rfl, rfl, by decide +kernel, rfl, by decide +kernel, by decide +kernel⟩
theorem ok_expected_log {f : Addr} {fd : FuncData} (F : FunD K "expected_log" "expected_log" (defArgs s_expected_log) (defBody s_expected_log) (defScope s_expected_log) [] [] f fd) (T : Txt K mg) (c_check_starts_logs : C8.Cal P w K mg base 2 "check_starts_logs" (sp_check_starts_logs K) []) (c_check_window : C8.Cal P w K mg base 2 "check_window" (sp_check_window K) []) (c_counts_of : C8.Cal P w K mg base 5 "counts_of" (sp_counts_of K) []) :
    FnOk P w K mg base CX0 6 f fd ["rule", "window", "starts"] (sp_expected_log K) := by
  refine F.ok sc_expected_log (fun vs H Q E h => ?_) (fun cdv A outer s H vs Q E hr h => ?_)
  · obtain ⟨_, _, _, _, _, _, _, rfl, _⟩ := h
    rfl
  · have hu := hu_of hr
    obtain ⟨p, q, l, R, a, b, ss, rfl, hR, hq, hl, h100, hab, h40, hlim, k⟩ := h
    refine ⟨_, PSs.nox ((pss_cons (ps_expr (C8.pe_c c_check_window hr (by decide) (by rfl) (pa_cons (pv 1) pa_nil)))
      (pss_cons (ps_expr (C8.pe_c c_check_starts_logs hr (by decide) (by rfl) (pa_cons (pv 2) pa_nil)))
      (pss_one (ps_ret (pe_callB (cr_sortIt rfl) (by rfl) T.f_sorted (by decide +kernel) (pa_cons (pe_bm0 PySem.F.plainAttrs_dict PySem.F.slot_dict_items PySem.F.type_dict_items mt_itemsK (C8.pe_c c_counts_of hr (by decide) (by rfl) (pa_cons (pv 0) (pa_cons (pv 1) (pa_cons (pv 2) pa_nil))))) pa_nil))))))), ?_⟩
    refine ⟨_, rfl, q, a, b, rfl, hq, hab, fun H1 s1 => ?_⟩
    refine ⟨_, rfl, l, ss, rfl, s1 _ _ hl, h40, fun H2 s2 => ?_⟩
    have s12 := s1.trans s2
    refine ⟨_, rfl, _, rfl, _, rfl, p, q, l, R, a, b, ss, rfl, hR.mono s12, s12 _ _ hq, s12 _ _ hl, h100, by omega, hlim, fun d kvs H3 s3 hd tab => ?_⟩
    obtain ⟨ps, rfl, hps⟩ := tab.log
    refine ⟨.inr (.inr (.inl ⟨rfl, .inl ⟨_, hd⟩⟩)), d, _, rfl, rfl, hd, fun it hit => ⟨it, d, ps, rfl, upd_same, by rw [upd_ne (ne_of_none hd hit)]; exact hd, fun H' l' qs s4 _ hp hs hpa => k l' qs H' (s12.trans (s3.trans ((same_new hit).trans s4))) hpa (hps qs hp hs)⟩⟩
end
end My
set_option Elab.async false
set_option linter.all false
set_option maxRecDepth 100000
set_option maxHeartbeats 4000000
namespace My
open PySem PySem.Spec PyProof.Rows L2
section
variable {P : Program} {w : World} {K : PySem.W.Frag} {mg : Str → Option Value} {base : Heap}
def sp_remaining_log (K : PySem.W.Frag) : Sp := fun vs H Q _ => ∃ (p q l m : Addr) (R : Ru) (a b : Int) (ss xs : List Int) (ps : List (Int × Int)), vs = [.ref p, .ref q, .ref l, .ref m] ∧ RuleAt K H p R ∧ H q = some (.tup [.int a, .int b]) ∧ PairsAt H l ps ∧ IsLog a b (cnt R ss) ps ∧
  H m = some (.lst (xs.map V.int)) ∧ b - a ≤ 100 ∧ a < b ∧ xs.length ≤ 40 ∧ (∀ t, R.t = .tim t → ∀ x ∈ xs, b - x ≤ 2 ^ 40) ∧ (∀ s, cnt R xs s ≤ cnt R ss s) ∧
  ∀ t d qs H', Same H H' → H' t = some (.tup [.str "log", .ref d]) → PairsAt H' d qs → IsLog a b (fun s => cnt R ss s - cnt R xs s) qs → Q (.ref t) H'
theorem IsLog.good {a b : Int} {c : Int → Nat} {ps : List (Int × Int)} (h : IsLog a b c ps) (h100 : b - a ≤ 100) : GoodLog a b ps := by
  refine ⟨?_, fun q hq => ?_, h.asc⟩
  · have := h.len
    omega
  · obtain ⟨h1, h2, h3⟩ := (h.mem q).mp hq
    omega
theorem Tab.sorted {kvs : List (Key × V)} {g : Int → Option Int} (h : Tab kvs g) : ∃ ps : List (Int × Int), kvs = ps.map kv2 ∧
    ∀ qs : List (Int × Int), qs.Perm ps → qs.Pairwise (fun x y => x.1 < y.1 ∨ (x.1 = y.1 ∧ x.2 ≤ y.2)) → (qs.Pairwise fun x y => x.1 < y.1) ∧ ∀ q, q ∈ qs ↔ g q.1 = some q.2 := by
  obtain ⟨ps, rfl, nd, mem⟩ := h
  refine ⟨ps, rfl, fun qs hp hs => ⟨?_, fun q => by rw [hp.mem_iff, mem q]⟩⟩
  have nd2 : (qs.map (·.1)).Nodup := (hp.map _).nodup_iff.mpr nd
  rw [List.nodup_iff_pairwise_ne, List.pairwise_map] at nd2
  exact (List.pairwise_and_iff.mpr ⟨hs, nd2⟩).imp fun ⟨h1, h2⟩ => by
    rcases h1 with h1 | h1
    · exact h1
    · exact absurd h1.1 h2
theorem PairsAt.updD {H : Hp} {l d : Addr} {ps : List (Int × Int)} {kvs : List (Key × V)} {o : HO} (h : PairsAt H l ps) (hd : H d = some (.dK kvs)) : PairsAt (upd H d o) l ps := by
  obtain ⟨ts, h1, h2⟩ := h
  refine ⟨ts, ?_, L2.Paired.mapP h2 fun _ _ q => ?_⟩
  · rw [upd_ne (ne_of h1 hd (by intro z; cases z))]; exact h1
  · rw [upd_ne (ne_of q hd (by intro z; cases z))]; exact q
theorem filter_range {α : Type} (d : α) (keep : α → Bool) (qs : List α) : ((List.range qs.length).filter fun i => keep (qs.getD i d)).map (fun i => qs.getD i d) = qs.filter keep := by
  have e : (List.range qs.length).map (fun i => qs.getD i d) = qs := by
    refine List.ext_getElem (by simp) fun i h1 h2 => ?_
    simp [List.getD_eq_getElem?_getD, h2]
  conv => rhs; rw [← e]
  rw [List.filter_map]
  rfl
theorem Made.pairs {f : Nat → Int × Int} {H : Hp} : ∀ {acc : List V} {is : List Nat}, Made (fun i y H => ∃ t, y = .ref t ∧ H t = some (.tup [.int (f i).1, .int (f i).2])) H acc is →
    ∃ ts : List Addr, acc = ts.map V.ref ∧ Paired (fun (t : Addr) (q : Int × Int) => H t = some (.tup [.int q.1, .int q.2])) ts (is.map f)
  | _, _, .nil => ⟨[], rfl, .nil⟩
  | _, _, .cons h t => by
    obtain ⟨a, rfl, h2⟩ := h
    obtain ⟨ts, e, h3⟩ := Made.pairs t
    exact ⟨a :: ts, by rw [e]; rfl, .cons h2 h3⟩
theorem sc_remaining_log : FnScope ["rule", "window", "log", "starts", "counts", "slot", "count"] ["rule", "window", "log", "starts"] (defScope s_remaining_log) := ⟨rfl, rfl, rfl, by decide +kernel, rfl, by decide +kernel, by decide +kernel⟩
theorem ok_remaining_log {f : Addr} {fd : FuncData} (F : FunD K "remaining_log" "remaining_log" (defArgs s_remaining_log) (defBody s_remaining_log) (defScope s_remaining_log) [] [] f fd) (T : Txt K mg) (c_check_log : C8.Cal P w K mg base 3 "check_log" (sp_check_log K) []) (c_check_starts_logs : C8.Cal P w K mg base 2 "check_starts_logs" (sp_check_starts_logs K) []) (c_check_window : C8.Cal P w K mg base 2 "check_window" (sp_check_window K) []) (c_counts_of : C8.Cal P w K mg base 5 "counts_of" (sp_counts_of K) []) :
    FnOk P w K mg base CX0 6 f fd ["rule", "window", "log", "starts"] (sp_remaining_log K) := by
  refine F.ok sc_remaining_log (fun vs H Q E h => ?_) (fun cdv A outer s H vs Q E hr h => ?_)
  · obtain ⟨_, _, _, _, _, _, _, _, _, _, rfl, _⟩ := h
    rfl
  · have hu := hu_of hr
    obtain ⟨p, q, l, m, R, a, b, ss, xs, ps, rfl, hR, hq, hl, hlog, hm, h100, hab, h40, hlim, hle, k⟩ := h
    refine ⟨_, PSs.nox ((pss_cons (ps_expr (C8.pe_c c_check_window hr (by decide) (by rfl) (pa_cons (pv 1) pa_nil)))
      (pss_cons (ps_expr (C8.pe_c c_check_log hr (by decide) (by rfl) (pa_cons (pv 1) (pa_cons (pv 2) pa_nil))))
      (pss_cons (ps_expr (C8.pe_c c_check_starts_logs hr (by decide) (by rfl) (pa_cons (pv 3) pa_nil)))
      (pss_cons (ps_set (i := 4) sc_remaining_log.nd rfl (by first | exact Or.inl rfl | exact Or.inr rfl) (pe_callTy (call_dictP rfl) (by rfl) T.f_dict (by decide +kernel) (pa_cons (pv 2) pa_nil)))
      (pss_cons (ps_for PassesOwn.never rfl (pi_list (pe_callB (cr_sortIt rfl) (by rfl) T.f_sorted (by decide +kernel) (pa_cons (pe_bm0 PySem.F.plainAttrs_dict PySem.F.slot_dict_items PySem.F.type_dict_items mt_itemsK (C8.pe_c c_counts_of hr (by decide) (by rfl) (pa_cons (pv 0) (pa_cons (pv 1) (pa_cons (pv 3) pa_nil))))) pa_nil))) (pg_tup rfl (pgs_cons (pg_name (i := 5) sc_remaining_log.nd rfl (by first | exact Or.inl rfl | exact Or.inr rfl)) (pgs_cons (pg_name (i := 6) sc_remaining_log.nd rfl (by first | exact Or.inl rfl | exact Or.inr rfl)) pgs_nil))) (pss_cons (ps_if (pt_cmpR op_lt (pe_dget2 hu (pv 4) (pv 5) pe_int ⟨rfl, rfl, rfl, rfl⟩) (pv 6) (nomark _)) (pss_one (ps_ret (pe_tup (pa_cons pe_str (pa_cons (pv 5) (pa_cons (pv 6) (pa_cons (pe_dget2 hu (pv 4) (pv 5) pe_int ⟨rfl, rfl, rfl, rfl⟩) pa_nil))))))) pss_nil)
      (pss_one (ps_dput hu (pv 4) (pv 5) (pe_op op_sub (pe_dget hu (pv 4) (pv 5) (fun _ _ => rfl)) (pv 6)) rfl))))
      (pss_one (ps_ret (pe_tup (pa_cons pe_str (pa_cons (pe_lc (own := [("slot", 5), ("count", 6)]) (g := (gTup K 2 (gCons (gName 5) (gCons (gName 6) gNil)))) rfl sc_remaining_log.nd (pi_list (pe_callB (cr_sortIt rfl) (by rfl) T.f_sorted (by decide +kernel) (pa_cons (pe_bm0 PySem.F.plainAttrs_dict PySem.F.slot_dict_items PySem.F.type_dict_items mt_itemsK (pv 4)) pa_nil))) (blkOk_by (own := [("slot", 5), ("count", 6)]) (N := ["rule", "window", "log", "starts", "counts", "slot", "count"]) (sc := defScope s_remaining_log) (by decide +kernel)) (fun _ _ _ _ _ => (pg_tup rfl (pgs_cons (pg_name (i := 5) sc_remaining_log.nd rfl (by first | exact Or.inl rfl | exact Or.inr rfl)) (pgs_cons (pg_name (i := 6) sc_remaining_log.nd rfl (by first | exact Or.inl rfl | exact Or.inr rfl)) pgs_nil)))) (fun _ _ _ _ _ => (pts_one (pt_cmpR op_gt (pv 6) pe_int (nomark _)))) (fun _ _ _ _ _ => (pe_tup (pa_cons (pv 5) (pa_cons (pv 6) pa_nil))))) pa_nil))))))))))), ?_⟩
    refine ⟨_, rfl, q, a, b, rfl, hq, hab, fun H1 s1 => ?_⟩
    refine ⟨_, rfl, _, rfl, q, l, a, b, ps, rfl, s1 _ _ hq, hl.mono s1, hlog.good h100, fun H2 s2 => ?_⟩
    have s12 := s1.trans s2
    refine ⟨_, rfl, m, xs, rfl, s12 _ _ hm, h40, fun H3 s3 => ?_⟩
    have s13 := s12.trans s3
    -- counts = dict(log)
    obtain ⟨ts, hl3, hts⟩ := hl.mono s13
    refine ⟨_, rfl, l, ts, ps.map kv2, rfl, SqL.of hl3, ?_, fun c hc => ?_⟩
    · have := pq_map (F := fun (t : Addr) (kv : Key × V) => SqT K H3 t [kV kv.1, kv.2]) id kv2 (L2.Paired.mapP hts fun _ _ h => SqT.of h)
      rwa [List.map_id] at this
    rw [hlog.merge]
    have hc0 : H c = none := same_mem s13 hc
    -- for slot, count in sorted(counts_of(..).items())
    have s14 : Same H (upd H3 c (.dK (ps.map kv2))) := s13.trans (same_new hc)
    refine ⟨_, rfl, _, rfl, _, rfl, p, q, m, R, a, b, xs, rfl, hR.mono s14, s14 _ _ hq, s14 _ _ hm, h100, by omega, hlim, fun d kvs H4 s4 hd tab => ?_⟩
    obtain ⟨ps2, rfl, hps2⟩ := tab.log
    refine ⟨.inr (.inr (.inl ⟨rfl, .inl ⟨_, hd⟩⟩)), d, _, rfl, rfl, hd, fun it hit => ⟨it, d, ps2, rfl, upd_same, by rw [upd_ne (ne_of_none hd hit)]; exact hd, fun H5 lw qs2 s5 _ hp hs hpa => ?_⟩⟩
    have hlog2 := hps2 qs2 hp hs
    have s45 := s4.trans ((same_new hit).trans s5)
    have s15 := s14.trans s45
    have hc5 : H5 c = some (.dK (ps.map kv2)) := s45 _ _ upd_same
    have hlw : ∃ ts2 : List Addr, H5 lw = some (.lst (ts2.map V.ref)) ∧ ts2.length = qs2.length := by
      obtain ⟨ts2, e1, e2⟩ := hpa
      exact ⟨ts2, e1, pq_len e2⟩
    obtain ⟨ts2, hlw, hlen2⟩ := hlw
    refine ⟨lw, rfl, ⟨ts2.map V.ref, SqL.of hlw⟩, for_list (K := K) (a := lw) (xs := ts2.map V.ref) (fun i σ' H' => ∃ (v5 v6 : Option V) (kvs : List (Key × V)), σ' = [some (.ref p), some (.ref q), some (.ref l), some (.ref m), some (.ref c), v5, v6] ∧
      Same H H' ∧ H' lw = some (.lst (ts2.map V.ref)) ∧ PairsAt H' lw qs2 ∧ H' c = some (.dK kvs) ∧ Tab kvs (fun s => (posO (win a b (cnt R ss) s)).map (· - tot (qs2.take i) s))) ?_ ?_ ?_ ?_⟩
    · refine ⟨none, none, _, rfl, s15, hlw, hpa, hc5, hlog.tab.congr fun s => ?_⟩
      rw [List.take_zero, tot_nil]
      cases posO (win a b (cnt R ss) s) with
      | none => rfl
      | some z => exact congrArg some (Int.sub_zero z).symm
    · rintro i σ' H' _ ⟨_, _, _, _, _, h2, _⟩
      exact SqL.of h2
    · rintro i x σ' H6 hx ⟨v5, v6, kvs, rfl, s6, h6, pa6, c6, tab6⟩
      obtain ⟨ts', e1, e2⟩ := pa6
      have ets : ts'.map V.ref = ts2.map V.ref := by
        rw [e1] at h6
        injection h6 with h6
        injection h6
      rw [← ets, List.getElem?_map] at hx
      obtain ⟨t, ht, rfl⟩ := Option.map_eq_some_iff.mp hx
      obtain ⟨z, hz, hzt⟩ := pq_get e2 ht
      have pa6 : PairsAt H6 lw qs2 := ⟨ts', e1, e2⟩
      obtain ⟨g1, g2, g3⟩ := (hlog2.mem z).mp (List.mem_of_getElem? hz)
      have htot : tot (qs2.take i) z.1 = 0 := tot_none fun y hy e => by
        obtain ⟨j, hj, hj2⟩ := List.mem_iff_getElem.mp hy
        rw [List.length_take] at hj
        rw [List.getElem_take] at hj2
        obtain ⟨bz, cz⟩ := List.getElem?_eq_some_iff.mp hz
        have := List.pairwise_iff_getElem.mp hlog2.asc j i (by omega) bz (by omega)
        rw [hj2, cz] at this
        omega
      have hle1 := hle z.1
      have hval : valV kvs (.inl z.1) = some (.int (cnt R ss z.1)) := by
        rw [tab6.get z.1, htot]
        unfold win posO
        rw [if_pos g1, if_neg (by omega)]
        exact congrArg some (congrArg V.int (Int.sub_zero _))
      have hval2 : ((valV kvs (.inl z.1)).getD (V.int 0)) = V.int (cnt R ss z.1) := by rw [hval]; rfl
      refine ⟨t, _, rfl, SqT.of hzt, rfl, _, _, rfl, _, _, rfl, rfl, ?_⟩
      refine ⟨_, rfl, c, rfl, .inl ⟨_, .inl c6⟩, _, rfl, _, DGet.k (k := .inl z.1) c6, _, rfl, _, _, hval2, rfl, false, congrArg V.bl (decide_eq_false (by omega)), iteF ?_⟩
      have hsz : kvs.length ≤ 100 := tab6.size (a := a) fun s' h => by
        by_cases hw : a ≤ s' ∧ s' < b
        · omega
        · exfalso
          refine h ?_
          unfold win
          rw [if_neg hw]
          rfl
      refine ⟨_, rfl, _, rfl, c, _, rfl, hval ▸ DGet.k (k := .inl z.1) c6, _, rfl, _, _, rfl, rfl, _, rfl, _, rfl, c, _, rfl, .inl ⟨_, .inl z.1, c6, rfl, szLt (by omega), rfl⟩, ?_⟩
      refine ⟨_, _, _, rfl, same_mu s6 hc0, ?_, pa6.updD c6, upd_same, (tab6.put z.1 ((cnt R ss z.1 : Int) - z.2)).congr fun s => ?_⟩
      · rw [upd_ne (ne_of h6 c6 (by intro z; cases z))]
        exact h6
      · have e3 : qs2.take (i + 1) = qs2.take i ++ [z] := by rw [List.take_add_one, hz]; rfl
        rw [e3, tot_snoc]
        show (if s = z.1 then _ else _) = _
        by_cases e : s = z.1
        · subst e
          rw [if_pos rfl, if_pos rfl, htot]
          unfold win posO
          rw [if_pos g1, if_neg (by omega)]
          exact congrArg some (show (cnt R ss z.1 : Int) - z.2 = (cnt R ss z.1 : Int) - (0 + z.2) by omega)
        · rw [if_neg e, if_neg e, Int.add_zero]
    · rintro σ' H6 ⟨v5, v6, kvs, rfl, s6, h6, pa6, c6, tab6⟩
      have elen : (ts2.map V.ref).length = qs2.length := by rw [List.length_map, hlen2]
      rw [elen, List.take_length] at tab6
      obtain ⟨ps3, rfl, hps3⟩ := tab6.sorted
      refine ⟨_, rfl, .inr (.inr (.inl ⟨rfl, .inl ⟨_, c6⟩⟩)), c, _, rfl, rfl, c6, fun it2 hit2 => ⟨it2, c, ps3, rfl, upd_same, by rw [upd_ne (ne_of_none c6 hit2)]; exact c6, fun H7 lz qs3 s7 _ hp3 hs3 hpa3 => ?_⟩⟩
      obtain ⟨asc3, mem3⟩ := hps3 qs3 hp3 hs3
      obtain ⟨ts3, hlz, hts3⟩ := hpa3
      have s17 : Same H H7 := s6.trans ((same_new hit2).trans s7)
      have hlen3 : (ts3.map V.ref).length = qs3.length := by rw [List.length_map]; exact pq_len hts3
      have hb3 : qs3.length ≤ 100 := by
        have := nodup_in a 100 (asc_nodup asc3) fun x hx => by
          obtain ⟨y, hy, rfl⟩ := List.mem_map.mp hx
          have h8 := (mem3 y).mp hy
          by_cases hw : a ≤ y.1 ∧ y.1 < b
          · omega
          · exfalso
            have e9 : posO (win a b (cnt R ss) y.1) = none := by
              unfold win
              rw [if_neg hw]
              rfl
            rw [e9] at h8
            cases h8
        rwa [List.length_map] at this
      refine ⟨lz, rfl, ⟨_, SqL.of hlz⟩, fun D hD => lc_pure (walk_list (K := K) (a := lz) (xs := ts3.map V.ref)) (fun i => decide (0 < (qs3.getD i (0, 0)).2)) (fun i y H => ∃ t, y = .ref t ∧ H t = some (.tup [.int (qs3.getD i (0, 0)).1, .int (qs3.getD i (0, 0)).2]))
        (fun i y H H' e ⟨t, h1, h2⟩ => ⟨t, h1, e _ _ (fun xs z => by cases z) h2⟩) hD (by omega) (fun H1 e => e.seq (SqL.of hlz)) ?_ ?_⟩
      · rintro i x H8 H9 Ky Kn hi s8 ⟨rfl, hx⟩ hy hn
        rw [List.getElem?_map] at hx
        obtain ⟨t, ht, rfl⟩ := Option.map_eq_some_iff.mp hx
        obtain ⟨z, hz, hzt⟩ := pq_get hts3 ht
        have hgd : qs3.getD i (0, 0) = z := by rw [List.getD_eq_getElem?_getD, hz]; rfl
        rw [hgd] at hy hn
        refine ⟨t, _, rfl, SqT.of (s8 _ _ hzt), rfl, _, _, rfl, _, _, rfl, rfl, rfl, ?_⟩
        refine ⟨_, rfl, _, _, rfl, rfl, _, rfl, ?_⟩
        refine ite2 (fun hc => ?_) (fun hc => ?_)
        · exact ⟨_, rfl, _, rfl, (by show 2 ≤ sizeLine; decide), fun t2 ht2 => hy hc _ _ ⟨t2, rfl, upd_same⟩ (same_new ht2)⟩
        · exact hn (by simpa using hc) _ (Same.refl _)
      · intro H8 acc s8 hD8 hmade
        have hmade2 := Made.pairs (f := fun i => qs3.getD i (0, 0)) hmade
        rw [hlen3, filter_range (0, 0) (fun z : Int × Int => decide (0 < z.2)) qs3] at hmade2
        obtain ⟨ts4, rfl, h4⟩ := hmade2
        refine ⟨by show 2 ≤ sizeLine; decide, fun t ht => k t D (qs3.filter fun z => decide (0 < z.2)) _ ((s17.trans s8).trans (same_new ht)) upd_same (PairsAt.mono (same_new ht) ⟨ts4, hD8, h4⟩) ⟨asc3.filter _, fun z => ?_⟩⟩
        rw [List.mem_filter, mem3 z, hlog2.tot]
        have hle1 := hle z.1
        unfold win posO
        by_cases hw : a ≤ z.1 ∧ z.1 < b
        · rw [if_pos hw, if_pos hw]
          by_cases h0 : cnt R ss z.1 = 0
          · rw [if_pos h0]
            constructor
            · rintro ⟨e, _⟩; cases e
            · rintro ⟨_, e, _⟩; omega
          · rw [if_neg h0]
            constructor
            · rintro ⟨e, e2⟩
              have e3 : (cnt R ss z.1 : Int) - (cnt R xs z.1 : Int) = z.2 := Option.some.inj e
              have e4 := of_decide_eq_true e2
              refine ⟨hw, ?_, ?_⟩ <;> omega
            · rintro ⟨_, e, e2⟩
              exact ⟨congrArg some (show (cnt R ss z.1 : Int) - (cnt R xs z.1 : Int) = z.2 by omega), decide_eq_true (by omega)⟩
        · rw [if_neg hw, if_neg hw, if_pos rfl]
          constructor
          · rintro ⟨e, _⟩; cases e
          · rintro ⟨e, _⟩; exact absurd e hw
end
end My
set_option Elab.async false
set_option linter.all false
set_option maxRecDepth 100000
set_option maxHeartbeats 4000000
/-! The groups that wait while a log is read. -/
namespace My
open PySem PySem.Spec PyProof.Rows L2
abbrev Tri := Int × Nat × Int
abbrev Pend := List (Int × List Tri)
def putW : Pend → Int → Tri → Pend
  | [], y, z => [(y, [z])]
  | w :: W, y, z => if w.1 = y then (w.1, w.2 ++ [z]) :: W else w :: putW W y z
def getW : Pend → Int → List Tri
  | [], _ => []
  | w :: W, y => if w.1 = y then w.2 else getW W y
def dropW (W : Pend) (y : Int) : Pend := W.filter fun w => decide (w.1 ≠ y)
def addW (R : Ru) (b : Int) (W : Pend) (x : Int) (k : Nat) (m : Int) : Pend := if R.has k = true then (if x + R.off k < b then putW W (x + R.off k) (x, k, m) else W) else W
def addS (R : Ru) (b : Int) (W : Pend) (z : Tri) : Pend := addW R b W z.1 (z.2.1 + 1) z.2.2
def takeW (R : Ru) (b : Int) (W : Pend) (y : Int) : Pend := (getW W y).foldl (addS R b) (dropW W y)
def sumW (W : Pend) (y : Int) : Int := ((getW W y).map fun z => z.2.2).sum
def flat : Pend → List (Int × Tri)
  | [] => []
  | w :: W => w.2.map (fun z => (w.1, z)) ++ flat W
structure PendOk (W : Pend) : Prop where
  nd : (W.map (·.1)).Nodup
  ne : ∀ w ∈ W, w.2 ≠ []
theorem putW_keys {W : Pend} {y : Int} {z : Tri} : ∀ j, j ∈ (putW W y z).map (·.1) → j = y ∨ j ∈ W.map (·.1) := by
  induction W with
  | nil => intro j h; simp [putW] at h; exact .inl h
  | cons w W ih =>
    intro j h
    unfold putW at h
    split at h
    · rw [List.map_cons, List.mem_cons] at h
      rcases h with h | h
      · exact .inr (by rw [h]; simp)
      · exact .inr (by rw [List.map_cons]; exact List.mem_cons_of_mem _ h)
    · rw [List.map_cons, List.mem_cons] at h
      rcases h with h | h
      · exact .inr (by rw [h]; simp)
      · rcases ih j h with h | h
        · exact .inl h
        · exact .inr (by rw [List.map_cons]; exact List.mem_cons_of_mem _ h)
theorem PendOk.put {W : Pend} {y : Int} {z : Tri} (h : PendOk W) : PendOk (putW W y z) := by
  induction W with
  | nil => exact ⟨by simp [putW], by simp [putW]⟩
  | cons w W ih =>
    have nd := h.nd
    rw [List.map_cons, List.nodup_cons] at nd
    have hW : PendOk W := ⟨nd.2, fun v hv => h.ne v (List.mem_cons_of_mem _ hv)⟩
    unfold putW
    split
    · refine ⟨by rw [List.map_cons, List.nodup_cons]; exact nd, fun v hv => ?_⟩
      rcases List.mem_cons.mp hv with e | hv
      · rw [e]; simp
      · exact h.ne v (List.mem_cons_of_mem _ hv)
    · rename_i hne
      refine ⟨?_, fun v hv => ?_⟩
      · rw [List.map_cons, List.nodup_cons]
        refine ⟨fun hm => ?_, (ih hW).nd⟩
        rcases putW_keys _ hm with e | e
        · exact hne e
        · exact nd.1 e
      · rcases List.mem_cons.mp hv with e | hv
        · rw [e]; exact h.ne w (List.mem_cons_self ..)
        · exact (ih hW).ne v hv
theorem PendOk.drop {W : Pend} (h : PendOk W) (y : Int) : PendOk (dropW W y) := by
  refine ⟨?_, fun w hw => h.ne w (List.mem_filter.mp hw).1⟩
  exact h.nd.sublist (List.Sublist.map _ List.filter_sublist)
theorem PendOk.add {R : Ru} {b : Int} {W : Pend} {x : Int} {k : Nat} {m : Int} (h : PendOk W) : PendOk (addW R b W x k m) := by
  unfold addW
  split
  · split
    · exact h.put
    · exact h
  · exact h
theorem PendOk.adds {R : Ru} {b : Int} : ∀ {zs : List Tri} {W : Pend}, PendOk W → PendOk (zs.foldl (addS R b) W)
  | [], _, h => h
  | z :: zs, _, h => PendOk.adds (zs := zs) (PendOk.add h)
theorem PendOk.take {R : Ru} {b : Int} {W : Pend} (h : PendOk W) (y : Int) : PendOk (takeW R b W y) := PendOk.adds (h.drop y)
theorem flat_put (W : Pend) (y : Int) (z : Tri) : (flat (putW W y z)).Perm (flat W ++ [(y, z)]) := by
  induction W with
  | nil => exact .refl _
  | cons w W ih =>
    unfold putW
    split
    · rename_i e
      show ((w.2 ++ [z]).map (fun z => (w.1, z)) ++ flat W).Perm (w.2.map (fun z => (w.1, z)) ++ flat W ++ [(y, z)])
      rw [List.map_append, List.append_assoc, List.append_assoc, ← e]
      exact List.Perm.append_left _ List.perm_append_comm
    · show (w.2.map (fun z => (w.1, z)) ++ flat (putW W y z)).Perm (w.2.map (fun z => (w.1, z)) ++ flat W ++ [(y, z)])
      rw [List.append_assoc]
      exact List.Perm.append_left _ ih
def addL (R : Ru) (b : Int) (x : Int) (k : Nat) (m : Int) : List (Int × Tri) := if R.has k = true then (if x + R.off k < b then [(x + R.off k, (x, k, m))] else []) else []
def addLS (R : Ru) (b : Int) (z : Tri) : List (Int × Tri) := addL R b z.1 (z.2.1 + 1) z.2.2
theorem flat_add (R : Ru) (b : Int) (W : Pend) (x : Int) (k : Nat) (m : Int) : (flat (addW R b W x k m)).Perm (flat W ++ addL R b x k m) := by
  unfold addW addL
  split
  · split
    · exact flat_put _ _ _
    · rw [List.append_nil]
  · rw [List.append_nil]
theorem flat_adds (R : Ru) (b : Int) : ∀ (zs : List Tri) (W : Pend), (flat (zs.foldl (addS R b) W)).Perm (flat W ++ zs.flatMap (addLS R b))
  | [], W => by rw [List.flatMap_nil, List.append_nil]; exact .refl _
  | z :: zs, W => by
    rw [List.foldl_cons, List.flatMap_cons, ← List.append_assoc]
    exact (flat_adds R b zs _).trans (List.Perm.append_right _ (flat_add R b W _ _ _))
theorem flat_none {W : Pend} {y : Int} (h : y ∉ W.map (·.1)) : (flat W).filter (fun q => decide (q.1 = y)) = [] := by
  induction W with
  | nil => rfl
  | cons w W ih =>
    rw [List.map_cons, List.mem_cons, not_or] at h
    show ((w.2.map (fun z => (w.1, z)) ++ flat W).filter _) = []
    rw [List.filter_append, ih h.2, List.append_nil, List.filter_map, List.filter_eq_nil_iff.mpr, List.map_nil]
    intro z _
    simpa using fun e => h.1 e.symm
theorem flat_get {W : Pend} (h : (W.map (·.1)).Nodup) (y : Int) : (flat W).filter (fun q => decide (q.1 = y)) = (getW W y).map fun z => (y, z) := by
  induction W with
  | nil => rfl
  | cons w W ih =>
    rw [List.map_cons, List.nodup_cons] at h
    show ((w.2.map (fun z => (w.1, z)) ++ flat W).filter _) = _
    rw [List.filter_append, List.filter_map]
    unfold getW
    split
    · rename_i e
      have hf : w.2.filter ((fun q : Int × Tri => decide (q.1 = y)) ∘ fun z => (w.1, z)) = w.2 := List.filter_eq_self.mpr fun z _ => decide_eq_true e
      rw [flat_none (by rw [← e]; exact h.1), List.append_nil, hf, e]
    · rename_i e
      have hf : w.2.filter ((fun q : Int × Tri => decide (q.1 = y)) ∘ fun z => (w.1, z)) = [] := List.filter_eq_nil_iff.mpr fun z _ => by simpa using e
      rw [hf, List.map_nil, List.nil_append, ih h.2]
theorem flat_drop (W : Pend) (y : Int) : flat (dropW W y) = (flat W).filter (fun q => !decide (q.1 = y)) := by
  induction W with
  | nil => rfl
  | cons w W ih =>
    show _ = ((w.2.map (fun z => (w.1, z)) ++ flat W).filter _)
    rw [List.filter_append, List.filter_map, ← ih]
    unfold dropW
    rw [List.filter_cons]
    by_cases e : w.1 = y
    · have hf : w.2.filter ((fun q : Int × Tri => !decide (q.1 = y)) ∘ fun z => (w.1, z)) = [] := List.filter_eq_nil_iff.mpr fun z _ => by simpa using e
      rw [if_neg (by simp [e]), hf]
      rfl
    · have hf : w.2.filter ((fun q : Int × Tri => !decide (q.1 = y)) ∘ fun z => (w.1, z)) = w.2 := List.filter_eq_self.mpr fun z _ => by simpa using e
      rw [if_pos (by simp [e]), hf]
      rfl
theorem perm_flatMap {α β : Type} (f : α → List β) {l l' : List α} (h : l.Perm l') : (l.flatMap f).Perm (l'.flatMap f) := by
  induction h with
  | nil => exact .refl _
  | cons x _ ih => rw [List.flatMap_cons, List.flatMap_cons]; exact List.Perm.append_left _ ih
  | swap x y l =>
    rw [List.flatMap_cons, List.flatMap_cons, List.flatMap_cons, List.flatMap_cons, ← List.append_assoc, ← List.append_assoc]
    exact List.Perm.append_right _ List.perm_append_comm
  | trans _ _ h1 h2 => exact h1.trans h2
def stepT (R : Ru) (b y : Int) (q : Int × Tri) : List (Int × Tri) := if q.1 = y then addLS R b q.2 else [q]
theorem stepT_eq {R : Ru} {b y : Int} (zs : List Tri) : (zs.map fun z => (y, z)).flatMap (stepT R b y) = zs.flatMap (addLS R b) := by
  rw [List.flatMap_map]
  congr 1
  funext z
  exact if_pos rfl
theorem stepT_ne {R : Ru} {b y : Int} : ∀ qs : List (Int × Tri), (qs.filter fun q => !decide (q.1 = y)).flatMap (stepT R b y) = qs.filter fun q => !decide (q.1 = y)
  | [] => rfl
  | q :: qs => by
    rw [List.filter_cons]
    split
    · rename_i h
      rw [List.flatMap_cons, stepT_ne qs]
      unfold stepT
      rw [if_neg (by simpa using h)]
      rfl
    · exact stepT_ne qs
theorem flat_take (R : Ru) (b : Int) {W : Pend} (h : PendOk W) (y : Int) : (flat (takeW R b W y)).Perm ((flat W).flatMap (stepT R b y)) := by
  refine (flat_adds R b _ _).trans ?_
  have h1 : ((flat W).filter (fun q => decide (q.1 = y)) ++ (flat W).filter (fun q => !decide (q.1 = y))).Perm (flat W) := List.filter_append_perm _ _
  refine .trans ?_ (perm_flatMap _ h1)
  rw [List.flatMap_append, stepT_ne, flat_get h.nd, stepT_eq, flat_drop]
  exact List.perm_append_comm
/-! ### what waits at slot t -/
def due (R : Ru) (b t : Int) (q : Int × Int) : Option (Int × Tri) := match R.first (t - q.1) with
  | none => none
  | some k => if q.1 + R.off k < b then some (q.1 + R.off k, (q.1, k, q.2)) else none
def pend (R : Ru) (b t : Int) (F : List (Int × Int)) : List (Int × Tri) := F.filterMap (due R b t)
theorem due_some {R : Ru} (ok : R.Ok) {b t : Int} {q : Int × Int} {y : Int} {z : Tri} : due R b t q = some (y, z) ↔ ∃ k, R.has k = true ∧ t ≤ y ∧ y = q.1 + R.off k ∧ (∀ j, j < k → q.1 + R.off j < t) ∧ y < b ∧ z = (q.1, k, q.2) := by
  unfold due
  constructor
  · intro h
    split at h
    · cases h
    · rename_i k e
      split at h
      · injection h with h
        injection h with h1 h2
        obtain ⟨f1, f2, f3⟩ := (Ru.first_some ok).mp e
        exact ⟨k, f1, by omega, h1.symm, fun j hj => (by have := f3 j hj; omega), by omega, h2.symm⟩
      · cases h
  · rintro ⟨k, h1, h2, h3, h4, h5, rfl⟩
    rw [(Ru.first_some ok).mpr ⟨h1, by omega, fun j hj => by have := h4 j hj; omega⟩]
    dsimp only
    rw [if_pos (by omega), h3]
theorem due_next {R : Ru} (ok : R.Ok) (b t : Int) (q : Int × Int) : (due R b (t + 1) q).toList = (due R b t q).toList.flatMap (stepT R b t) := by
  cases e : due R b t q with
  | none =>
    cases e2 : due R b (t + 1) q with
    | none => rfl
    | some v =>
      exfalso
      obtain ⟨y, z⟩ := v
      obtain ⟨k, h1, h2, h3, h4, h5, rfl⟩ := (due_some ok).mp e2
      by_cases hk : ∃ j, j < k ∧ t ≤ q.1 + R.off j
      · obtain ⟨j, hj, hj2⟩ := hk
        have := h4 j hj
        have e3 : due R b t q = some (t, (q.1, j, q.2)) := (due_some ok).mpr ⟨j, Ru.has_le h1 (by omega), by omega, by omega, fun i hi => by have := Ru.off_lt ok hi; omega, by omega, rfl⟩
        rw [e] at e3; cases e3
      · have e3 : due R b t q = some (y, (q.1, k, q.2)) := (due_some ok).mpr ⟨k, h1, by omega, h3, fun i hi => Int.lt_of_not_ge fun g => hk ⟨i, hi, g⟩, h5, rfl⟩
        rw [e] at e3; cases e3
  | some v =>
    obtain ⟨y, z⟩ := v
    obtain ⟨k, h1, h2, h3, h4, h5, rfl⟩ := (due_some ok).mp e
    rw [Option.toList_some, List.flatMap_cons, List.flatMap_nil, List.append_nil]
    unfold stepT
    by_cases hy : y = t
    · rw [if_pos hy]
      show _ = addL R b q.1 (k + 1) q.2
      unfold addL
      have hlt := Ru.off_lt ok (show k < k + 1 by omega)
      have hlow : ∀ j, j < k + 1 → q.1 + R.off j < t + 1 := fun j hj => by
        have := Ru.off_le ok (show j ≤ k by omega)
        omega
      split
      · rename_i hh
        split
        · rename_i hb
          rw [(due_some ok).mpr ⟨k + 1, hh, by omega, rfl, hlow, hb, rfl⟩]
          rfl
        · rename_i hb
          cases e2 : due R b (t + 1) q with
          | none => rfl
          | some v =>
            exfalso
            obtain ⟨y2, z2⟩ := v
            obtain ⟨k2, g1, g2, g3, g4, g5, rfl⟩ := (due_some ok).mp e2
            rcases Nat.lt_or_ge k2 (k + 1) with g | g
            · have := hlow k2 g; omega
            · have := Ru.off_le ok g; omega
      · rename_i hh
        cases e2 : due R b (t + 1) q with
        | none => rfl
        | some v =>
          exfalso
          obtain ⟨y2, z2⟩ := v
          obtain ⟨k2, g1, g2, g3, g4, g5, rfl⟩ := (due_some ok).mp e2
          rcases Nat.lt_or_ge k2 (k + 1) with g | g
          · have := hlow k2 g; omega
          · exact hh (Ru.has_le g1 g)
    · rw [if_neg hy, (due_some ok).mpr ⟨k, h1, by omega, h3, fun i hi => by have := h4 i hi; omega, h5, rfl⟩]
      rfl
theorem pend_cons (R : Ru) (b t : Int) (q : Int × Int) (F : List (Int × Int)) : pend R b t (q :: F) = (due R b t q).toList ++ pend R b t F := by
  unfold pend
  rw [List.filterMap_cons]
  cases due R b t q <;> rfl
theorem pend_next {R : Ru} (ok : R.Ok) (b t : Int) : ∀ F : List (Int × Int), (pend R b t F).flatMap (stepT R b t) = pend R b (t + 1) F
  | [] => rfl
  | q :: F => by rw [pend_cons, pend_cons, List.flatMap_append, pend_next ok b t F, due_next ok]
theorem pend_mem {R : Ru} {b t : Int} {F : List (Int × Int)} {v : Int × Tri} : v ∈ pend R b t F ↔ ∃ q ∈ F, due R b t q = some v := List.mem_filterMap
/-- nothing is due before s: then as at s -/
theorem pend_jump {R : Ru} (ok : R.Ok) {b t s : Int} (hts : t ≤ s) : ∀ {F : List (Int × Int)}, (∀ v ∈ pend R b t F, s ≤ v.1) → pend R b s F = pend R b t F
  | [], _ => rfl
  | q :: F, h => by
    rw [pend_cons] at h
    rw [pend_cons, pend_cons, pend_jump ok hts fun v hv => h v (List.mem_append_right _ hv)]
    congr 2
    have h1 : ∀ v, due R b t q = some v → s ≤ v.1 := fun v e => h v (List.mem_append_left _ (by rw [e]; exact List.mem_cons_self ..))
    cases e : due R b t q with
    | some v =>
      obtain ⟨y, z⟩ := v
      have h2 := h1 _ e
      obtain ⟨k, g1, g2, g3, g4, g5, rfl⟩ := (due_some ok).mp e
      exact (due_some ok).mpr ⟨k, g1, h2, g3, fun j hj => by have := g4 j hj; omega, g5, rfl⟩
    | none =>
      cases e2 : due R b s q with
      | none => rfl
      | some v =>
        exfalso
        obtain ⟨y, z⟩ := v
        obtain ⟨k, g1, g2, g3, g4, g5, rfl⟩ := (due_some ok).mp e2
        cases f : R.first (t - q.1) with
        | none =>
          have := (Ru.first_none ok).mp f k g1
          omega
        | some j =>
          obtain ⟨f1, f2, f3⟩ := (Ru.first_some ok).mp f
          have hjk : j ≤ k := by
            rcases Nat.lt_or_ge k j with z | z
            · have := f3 k z; omega
            · exact z
          have h4 := Ru.off_le ok hjk
          have e3 : due R b t q = some (q.1 + R.off j, (q.1, j, q.2)) := (due_some ok).mpr ⟨j, f1, by omega, rfl, fun i hi => by have := f3 i hi; omega, by omega, rfl⟩
          rw [e] at e3; cases e3
theorem perm_sum {l l' : List Int} (h : l.Perm l') : l.sum = l'.sum := by
  induction h with
  | nil => rfl
  | cons x _ ih => rw [List.sum_cons, List.sum_cons, ih]
  | swap x y l => rw [List.sum_cons, List.sum_cons, List.sum_cons, List.sum_cons]; omega
  | trans _ _ h1 h2 => exact h1.trans h2
/-- the weight that hits s -/
def hitSum (R : Ru) (s : Int) (F : List (Int × Int)) : Int := (F.map fun q => if R.hit (s - q.1) = true then q.2 else 0).sum
theorem due_hit {R : Ru} (ok : R.Ok) {b s : Int} (hb : s < b) (q : Int × Int) : (((due R b s q).toList.filter fun v => decide (v.1 = s)).map fun v => v.2.2.2).sum = if R.hit (s - q.1) = true then q.2 else 0 := by
  by_cases h : R.hit (s - q.1) = true
  · rw [if_pos h]
    obtain ⟨k, h1, h2⟩ := (Ru.hit_iff ok).mp h
    rw [(due_some ok).mpr ⟨k, h1, Int.le_refl _, by omega, fun j hj => by have := Ru.off_lt ok hj; omega, hb, rfl⟩]
    simp
  · rw [if_neg h]
    cases e : due R b s q with
    | none => rfl
    | some v =>
      obtain ⟨y, z⟩ := v
      obtain ⟨k, g1, g2, g3, g4, g5, rfl⟩ := (due_some ok).mp e
      have : y ≠ s := fun e => h ((Ru.hit_iff ok).mpr ⟨k, g1, by omega⟩)
      simp [this]
theorem pend_hit {R : Ru} (ok : R.Ok) {b s : Int} (hb : s < b) : ∀ F : List (Int × Int), (((pend R b s F).filter fun v => decide (v.1 = s)).map fun v => v.2.2.2).sum = hitSum R s F
  | [] => rfl
  | q :: F => by
    rw [pend_cons, List.filter_append, List.map_append, List.sum_append, pend_hit ok hb F, due_hit ok hb]
    rfl
theorem sumW_eq {R : Ru} (ok : R.Ok) {b s : Int} (hb : s < b) {W : Pend} {F : List (Int × Int)} (h : PendOk W) (hp : (flat W).Perm (pend R b s F)) : sumW W s = hitSum R s F := by
  rw [← pend_hit ok hb F]
  unfold sumW
  rw [perm_sum ((hp.symm.filter _).map _), flat_get h.nd, List.map_map]
  rfl
/-! ### the starts found -/
structure IsFound (ss : List Int) (t : Int) (F : List (Int × Int)) : Prop where
  asc : F.Pairwise fun x y => x.1 < y.1
  mem : ∀ q : Int × Int, q ∈ F ↔ q.1 ∈ ss ∧ q.1 < t ∧ q.2 = (ss.count q.1 : Nat)
theorem sum_one (h : Int → Bool) (y : Int) : ∀ {D : List Int}, D.Nodup → (D.map fun x => if h x = true then (if x = y then (1 : Int) else 0) else 0).sum = if h y = true ∧ y ∈ D then 1 else 0
  | [], _ => by rw [if_neg (by simp)]; rfl
  | x :: D, nd => by
    rw [List.nodup_cons] at nd
    rw [List.map_cons, List.sum_cons, sum_one h y nd.2]
    by_cases e : x = y
    · subst e
      by_cases hx : h x = true
      · simp [hx, nd.1]
      · simp [hx]
    · rw [if_neg e]
      have e2 : (if h x = true then (0 : Int) else 0) = 0 := by split <;> rfl
      rw [e2, Int.zero_add]
      by_cases q : h y = true ∧ y ∈ D
      · rw [if_pos q, if_pos ⟨q.1, List.mem_cons_of_mem _ q.2⟩]
      · rw [if_neg q, if_neg fun z => by
          rcases List.mem_cons.mp z.2 with z2 | z2
          · exact e z2.symm
          · exact q ⟨z.1, z2⟩]
theorem sum_count (h : Int → Bool) {D : List Int} (nd : D.Nodup) : ∀ ss : List Int, (D.map fun x => if h x = true then ((ss.count x : Nat) : Int) else 0).sum = (ss.countP fun x => h x && decide (x ∈ D) : Nat)
  | [] => by
    have : (D.map fun x => if h x = true then (((([] : List Int)).count x : Nat) : Int) else 0) = D.map fun _ => (0 : Int) := List.map_congr_left fun x _ => by simp
    rw [this]
    clear this nd
    induction D with
    | nil => rfl
    | cons x D ih => rw [List.map_cons, List.sum_cons, ih]; rfl
  | y :: ss => by
    have e1 : (D.map fun x => if h x = true then (((y :: ss).count x : Nat) : Int) else 0) = D.map fun x => (if h x = true then ((ss.count x : Nat) : Int) else 0) + (if h x = true then (if x = y then (1 : Int) else 0) else 0) := by
      refine List.map_congr_left fun x _ => ?_
      rw [List.count_cons]
      by_cases hx : h x = true
      · rw [if_pos hx, if_pos hx, if_pos hx]
        by_cases e : x = y
        · subst e; simp
        · rw [if_neg e, if_neg (by simpa using fun z => e z.symm)]; simp
      · rw [if_neg hx, if_neg hx, if_neg hx]; rfl
    have e2 : ∀ (f g : Int → Int) (l : List Int), (l.map fun x => f x + g x).sum = (l.map f).sum + (l.map g).sum := fun f g l => by
      induction l with
      | nil => rfl
      | cons x l ih => rw [List.map_cons, List.sum_cons, ih, List.map_cons, List.sum_cons, List.map_cons, List.sum_cons]; omega
    rw [e1, e2, sum_count h nd ss, sum_one h y nd, List.countP_cons]
    by_cases q : h y = true ∧ y ∈ D
    · rw [if_pos q, if_pos (by simp [q.1, q.2])]; rfl
    · rw [if_neg q, if_neg (by simpa using q)]; rfl
theorem IsFound.sum {ss : List Int} {t : Int} {F : List (Int × Int)} (h : IsFound ss t F) (R : Ru) (s : Int) : hitSum R s F = (ss.countP fun x => R.hit (s - x) && decide (x < t) : Nat) := by
  have nd := asc_nodup h.asc
  have e1 : hitSum R s F = ((F.map (·.1)).map fun x => if R.hit (s - x) = true then ((ss.count x : Nat) : Int) else 0).sum := by
    unfold hitSum
    rw [List.map_map]
    congr 1
    refine List.map_congr_left fun q hq => ?_
    show _ = if R.hit (s - q.1) = true then _ else _
    rw [((h.mem q).mp hq).2.2]
  rw [e1, sum_count _ nd ss]
  congr 1
  refine List.countP_congr fun x hx => ?_
  simp only [Bool.and_eq_true, decide_eq_true_eq]
  refine and_congr_right fun _ => ⟨fun hm => ?_, fun hm => ?_⟩
  · obtain ⟨q, hq, rfl⟩ := List.mem_map.mp hm
    exact ((h.mem q).mp hq).2.1
  · exact List.mem_map.mpr ⟨(x, (ss.count x : Nat)), (h.mem _).mpr ⟨hx, hm, rfl⟩, rfl⟩
theorem cnt_split {R : Ru} (ok : R.Ok) (ss : List Int) (s : Int) : cnt R ss s = (ss.countP fun x => R.hit (s - x) && decide (x < s)) + ss.count s := by
  unfold cnt
  induction ss with
  | nil => rfl
  | cons x ss ih =>
    rw [List.countP_cons, List.countP_cons, List.count_cons, ih]
    have h0 : R.hit 0 = true := (Ru.hit_iff ok).mpr ⟨0, by unfold Ru.has; simp, rfl⟩
    rcases Int.lt_trichotomy x s with h | h | h
    · have e1 : (x == s) = false := by simpa using (show x ≠ s by omega)
      rw [decide_eq_true h, Bool.and_true, e1]
      split <;> simp <;> omega
    · subst h
      rw [Int.sub_self, h0]
      simp
      omega
    · have e1 : (x == s) = false := by simpa using (show x ≠ s by omega)
      have e2 : R.hit (s - x) = false := by
        cases e : R.hit (s - x) with
        | false => rfl
        | true =>
          obtain ⟨k, _, h2⟩ := (Ru.hit_iff ok).mp e
          have := r_nn ok k
          omega
      rw [e1, e2]
      simp
where r_nn {R : Ru} (ok : R.Ok) (k : Nat) : 0 ≤ R.off k := R.off_nn ok k
end My
set_option Elab.async false
set_option linter.all false
set_option maxRecDepth 100000
set_option maxHeartbeats 4000000
namespace My
open PySem PySem.Spec PyProof.Rows L2
section
variable {P : Program} {w : World} {K : PySem.W.Frag} {mg : Str → Option Value} {base : Heap}
/-! ### an Expected in the heap -/
def efs (p q d : Addr) : List (Str × V) := putF "waiting" (.ref d) (putF "window" (.ref q) (putF "schedule" (.ref p) []))
theorem efs_schedule (p q d : Addr) : (efs p q d).lookup ("schedule" : Str) = some (.ref p) := by kernel_rfl
theorem efs_window (p q d : Addr) : (efs p q d).lookup ("window" : Str) = some (.ref q) := by kernel_rfl
theorem efs_waiting (p q d : Addr) : (efs p q d).lookup ("waiting" : Str) = some (.ref d) := by kernel_rfl
theorem mE_add (p q d : Addr) : (efs p q d).lookup ("add" : Str) = none := by kernel_rfl
theorem mE_take (p q d : Addr) : (efs p q d).lookup ("take" : Str) = none := by kernel_rfl
theorem mE_next_slot (p q d : Addr) : (efs p q d).lookup ("next_slot" : Str) = none := by kernel_rfl
def triAt (H : Hp) (t : Addr) (z : Tri) : Prop := H t = some (.tup [.int z.1, .int (z.2.1 : Nat), .int z.2.2])
def Grp (H0 H : Hp) (kv : Key × V) (w : Int × List Tri) : Prop := ∃ (l : Addr) (ts : List Addr), kv = (.inl w.1, .ref l) ∧ H0 l = none ∧ H l = some (.lst (ts.map V.ref)) ∧ Paired (triAt H) ts w.2
structure ExpAt (K : PySem.W.Frag) (H0 H : Hp) (e p q : Addr) (W : Pend) : Prop where
  same : Same H0 H
  ok : PendOk W
  ex : ∃ dx d kvs, H e = some (.ins (cE K) dx (efs p q d)) ∧ H0 d = none ∧ H d = some (.dK kvs) ∧ Paired (Grp H0 H) kvs W ∧ (kvs.map (·.2)).Nodup
theorem ExpAt.md {H0 H : Hp} {e p q : Addr} {W : Pend} {m : Str} (h : ExpAt K H0 H e p q W) (hm : ∀ p q d, (efs p q d).lookup m = none) : Md H (.ref e) (cE K) m := by
  obtain ⟨dx, d, kvs, h1, _⟩ := h.ex
  exact ⟨e, dx, _, rfl, h1, hm p q d⟩
theorem Grp.mono {H0 H H' : Hp} {kv : Key × V} {w : Int × List Tri} (s : Same H H') (h : Grp H0 H kv w) : Grp H0 H' kv w := by
  obtain ⟨l, ts, h1, h2, h3, h4⟩ := h
  exact ⟨l, ts, h1, h2, s _ _ h3, L2.Paired.mapP h4 fun _ _ q => s _ _ q⟩
theorem ExpAt.mono {H0 H H' : Hp} {e p q : Addr} {W : Pend} (s : Same H H') (h : ExpAt K H0 H e p q W) : ExpAt K H0 H' e p q W := by
  obtain ⟨dx, d, kvs, h1, h2, h3, h4, h5⟩ := h.ex
  exact ⟨h.same.trans s, h.ok, dx, d, kvs, s _ _ h1, h2, s _ _ h3, L2.Paired.mapP h4 fun _ _ => Grp.mono s, h5⟩
/-- a smaller base -/
theorem ExpAt.weaken {H0 Hb H : Hp} {e p q : Addr} {W : Pend} (s : Same H0 Hb) (h : ExpAt K Hb H e p q W) : ExpAt K H0 H e p q W := by
  obtain ⟨dx, d, kvs, h1, h2, h3, h4, h5⟩ := h.ex
  exact ⟨s.trans h.same, h.ok, dx, d, kvs, h1, same_mem s h2, h3, L2.Paired.mapP h4 fun _ _ ⟨l, ts, g1, g2, g3⟩ => ⟨l, ts, g1, same_mem s g2, g3⟩, h5⟩
/-- an object that is none of its own, new or changed -/
theorem ExpAt.chg {H0 H : Hp} {e p q : Addr} {W : Pend} {S : Addr} {o : HO} (h : ExpAt K H0 H e p q W) (hS : H S = none ∨ (H0 S ≠ none ∧ ∃ xs, H S = some (.lst xs))) : ExpAt K (upd H0 S o) (upd H S o) e p q W := by
  obtain ⟨dx, d, kvs, h1, h2, h3, h4, h5⟩ := h.ex
  have ne0 : ∀ b u, H b = some u → (∀ xs, u ≠ .lst xs) → b ≠ S := fun b u hb hu => by
    rcases hS with hS | ⟨_, xs, hS⟩
    · exact ne_of_none hb hS
    · exact ne_of hb hS (hu xs)
  have ne1 : ∀ b u, H b = some u → H0 b = none → b ≠ S := fun b u hb hb0 e => by
    rcases hS with hS | ⟨hS, _⟩
    · rw [e, hS] at hb; cases hb
    · rw [e] at hb0; exact hS hb0
  refine ⟨fun b u hb => ?_, h.ok, dx, d, kvs, ?_, ?_, ?_, L2.Paired.mapP h4 fun kv w ⟨l, ts, g1, g2, g3, g4⟩ => ⟨l, ts, g1, ?_, ?_, L2.Paired.mapP g4 fun t z q => ?_⟩, h5⟩
  · by_cases eb : b = S
    · subst eb
      rw [upd_same] at hb ⊢
      exact hb
    · rw [upd_ne eb] at hb ⊢
      exact h.same _ _ hb
  · rw [upd_ne (ne0 _ _ h1 fun xs z => by cases z)]; exact h1
  · rw [upd_ne (ne1 _ _ h3 h2)]; exact h2
  · rw [upd_ne (ne1 _ _ h3 h2)]; exact h3
  · rw [upd_ne (ne1 _ _ g3 g2)]; exact g2
  · rw [upd_ne (ne1 _ _ g3 g2)]; exact g3
  · show upd H S o t = _
    rw [upd_ne (ne0 _ _ q fun xs z => by cases z)]; exact q
theorem map_ref_inj : ∀ {ts ts2 : List Addr}, ts.map V.ref = ts2.map V.ref → ts = ts2
  | [], [], _ => rfl
  | [], _ :: _, e => by cases e
  | _ :: _, [], e => by cases e
  | a :: ts, b :: ts2, e => by
    rw [List.map_cons, List.map_cons] at e
    injection e with e1 e2
    injection e1 with e1
    rw [e1, map_ref_inj e2]
theorem grp_find {H0 H : Hp} {y : Int} : ∀ {kvs : List (Key × V)} {W : Pend}, Paired (Grp H0 H) kvs W → (valV kvs (.inl y) = none ∧ y ∉ W.map (·.1) ∧ getW W y = []) ∨
    ∃ (l : Addr) (ts : List Addr), valV kvs (.inl y) = some (.ref l) ∧ H0 l = none ∧ H l = some (.lst (ts.map V.ref)) ∧ Paired (triAt H) ts (getW W y) ∧ V.ref l ∈ kvs.map (·.2)
  | _, _, .nil => .inl ⟨rfl, List.not_mem_nil, rfl⟩
  | kv :: kvs, w :: W, .cons h t => by
    obtain ⟨l, ts, rfl, g2, g3, g4⟩ := h
    by_cases e : w.1 = y
    · right
      refine ⟨l, ts, valV_pos (congrArg Sum.inl e), g2, g3, ?_, List.mem_cons_self ..⟩
      unfold getW
      rw [if_pos e]
      exact g4
    · have e1 : valV ((Sum.inl w.1, V.ref l) :: kvs) (Sum.inl y : Key) = valV kvs (.inl y) := valV_neg fun z => e (Sum.inl.inj z)
      have e2 : getW (w :: W) y = getW W y := if_neg e
      rw [e1, e2]
      rcases grp_find (y := y) t with ⟨a1, a2, a3⟩ | ⟨l2, ts2, a1, a2, a3, a4, a5⟩
      · refine .inl ⟨a1, ?_, a3⟩
        rw [List.map_cons, List.mem_cons, not_or]
        exact ⟨fun z => e z.symm, a2⟩
      · exact .inr ⟨l2, ts2, a1, a2, a3, a4, List.mem_cons_of_mem _ a5⟩
theorem grp_keep {H0 H : Hp} {l : Addr} {o : HO} {xs : List V} (hl : H l = some (.lst xs)) : ∀ {kvs : List (Key × V)} {W : Pend}, Paired (Grp H0 H) kvs W → V.ref l ∉ kvs.map (·.2) → Paired (Grp H0 (upd H l o)) kvs W
  | _, _, .nil, _ => .nil
  | kv :: kvs, w :: W, .cons h t, hn => by
    obtain ⟨l2, ts, rfl, g2, g3, g4⟩ := h
    rw [List.map_cons, List.mem_cons, not_or] at hn
    refine .cons ⟨l2, ts, rfl, g2, ?_, L2.Paired.mapP g4 fun t z q => ?_⟩ (grp_keep hl t hn.2)
    · rw [upd_ne (fun e => hn.1 (by rw [e]))]; exact g3
    · show upd H l o t = _
      rw [upd_ne (ne_of q hl (by intro z; cases z))]; exact q
theorem putW_none {W : Pend} {y : Int} {z : Tri} (h : y ∉ W.map (·.1)) : putW W y z = W ++ [(y, [z])] := by
  induction W with
  | nil => rfl
  | cons w W ih =>
    rw [List.map_cons, List.mem_cons, not_or] at h
    unfold putW
    rw [if_neg fun e => h.1 e.symm, ih h.2]
    rfl
/-- the group at y grows by a triple -/
theorem grp_put {H0 H : Hp} {y : Int} {l t : Addr} {z : Tri} {ts : List Addr} (hl : H l = some (.lst (ts.map V.ref))) (ht : triAt H t z) : ∀ {kvs : List (Key × V)} {W : Pend}, Paired (Grp H0 H) kvs W → (kvs.map (·.2)).Nodup →
    (W.map (·.1)).Nodup → valV kvs (.inl y) = some (.ref l) → Paired (Grp H0 (upd H l (.lst (ts.map V.ref ++ [.ref t])))) kvs (putW W y z)
  | _, _, .nil, _, _, hv => by cases hv
  | kv :: kvs, w :: W, .cons h tl, nd, nd2, hv => by
    obtain ⟨l2, ts2, rfl, g2, g3, g4⟩ := h
    rw [List.map_cons, List.nodup_cons] at nd nd2
    unfold putW
    by_cases e : w.1 = y
    · rw [valV_pos (p := (Sum.inl w.1, V.ref l2)) (congrArg Sum.inl e)] at hv
      injection hv with hv
      injection hv with hv
      subst hv
      rw [if_pos e]
      rw [hl] at g3
      have e3 : ts = ts2 := by
        injection g3 with g3
        injection g3 with g3
        exact map_ref_inj g3
      subst e3
      refine .cons ⟨l2, ts ++ [t], rfl, g2, by rw [upd_same, List.map_append]; rfl, ?_⟩ (grp_keep hl tl nd.1)
      refine L2.Paired.mapP (F := triAt H) (Paired.snoc g4 ht) fun t2 z2 q => ?_
      show upd H l2 _ t2 = _
      rw [upd_ne (ne_of q hl (by intro z; cases z))]; exact q
    · have e1 : valV ((Sum.inl w.1, V.ref l2) :: kvs) (Sum.inl y : Key) = valV kvs (.inl y) := valV_neg fun z => e (Sum.inl.inj z)
      rw [e1] at hv
      rw [if_neg e]
      have hm : V.ref l ∈ kvs.map (·.2) := by
        obtain ⟨v, hv1, hv2⟩ := Option.map_eq_some_iff.mp hv
        have := List.mem_of_find?_eq_some hv1
        rw [← hv2]
        exact List.mem_map_of_mem this
      refine .cons ⟨l2, ts2, rfl, g2, ?_, L2.Paired.mapP g4 fun t2 z2 q => ?_⟩ (grp_put hl ht tl nd.2 nd2.2 hv)
      · rw [upd_ne fun e => nd.1 (by show V.ref l2 ∈ _; rw [e]; exact hm)]; exact g3
      · show upd H l _ t2 = _
        rw [upd_ne (ne_of q hl (by intro z; cases z))]; exact q
theorem grp_dropW {H0 H : Hp} {y : Int} : ∀ {kvs : List (Key × V)} {W : Pend}, Paired (Grp H0 H) kvs W → Paired (Grp H0 H) (dropK kvs (.inl y)) (dropW W y)
  | _, _, .nil => .nil
  | kv :: kvs, w :: W, .cons h t => by
    obtain ⟨l, ts, rfl, g⟩ := h
    unfold dropK dropW
    rw [List.filter_cons, List.filter_cons]
    by_cases e : w.1 = y
    · rw [if_neg (by simp [e]), if_neg (by simp [e])]
      exact grp_dropW t
    · rw [if_pos (by simpa using e), if_pos (by simpa using e)]
      exact .cons ⟨l, ts, rfl, g⟩ (grp_dropW t)
theorem flat_len (W : Pend) (h : PendOk W) : W.length ≤ (flat W).length := by
  induction W with
  | nil => exact Nat.le_refl _
  | cons w W ih =>
    have nd := h.nd
    rw [List.map_cons, List.nodup_cons] at nd
    have h1 := ih ⟨nd.2, fun v hv => h.ne v (List.mem_cons_of_mem _ hv)⟩
    have h2 : 0 < w.2.length := List.length_pos_iff.mpr (h.ne w (List.mem_cons_self ..))
    show _ ≤ (w.2.map (fun z => (w.1, z)) ++ flat W).length
    rw [List.length_append, List.length_map, List.length_cons]
    omega
theorem getW_len (W : Pend) (y : Int) : (getW W y).length ≤ (flat W).length := by
  induction W with
  | nil => exact Nat.le_refl _
  | cons w W ih =>
    show _ ≤ (w.2.map (fun z => (w.1, z)) ++ flat W).length
    rw [List.length_append, List.length_map]
    unfold getW
    split <;> omega
def sp_Expected_init (K : PySem.W.Frag) : Sp := fun vs H Q _ => ∃ (e dx p q : Addr), vs = [.ref e, .ref p, .ref q] ∧ H e = some (.ins (cE K) dx []) ∧
  ∀ H' d, (∀ b o, H b = some o → b ≠ e → H' b = some o) → H' e = some (.ins (cE K) dx (efs p q d)) → H d = none → H' d = some (.dK []) → Q .non H'
theorem sc_Expected_init : FnScope ["self", "rule", "window"] ["self", "rule", "window"] (defScope s_Expected_init) := ⟨rfl, rfl, rfl, by decide +kernel, rfl, by decide +kernel, by decide +kernel⟩
theorem ok_Expected_init {f : Addr} {fd : FuncData} (F : FunD K "__init__" "Expected.__init__" (defArgs s_Expected_init) (defBody s_Expected_init) (defScope s_Expected_init) [] [] f fd) (T : Txt K mg)  :
    FnOk P w K mg base CX0 1 f fd ["self", "rule", "window"] (sp_Expected_init K) := by
  refine F.ok sc_Expected_init (fun vs H Q E h => ?_) (fun cdv A outer s H vs Q E hr h => ?_)
  · obtain ⟨_, _, _, _, rfl, _⟩ := h
    rfl
  · have hu := hu_of hr
    obtain ⟨e, dx, p, q, rfl, he, k⟩ := h
    refine ⟨_, PSs.nox ((pss_cons (ps_fld (pv 0) (pv 1) rfl)
      (pss_cons (ps_fld (pv 0) (pv 2) rfl)
      (pss_one (ps_fld (pv 0) pe_dnewK rfl))))), ?_⟩
    refine ⟨_, rfl, _, rfl, e, _, dx, [], rfl, he, T.clE, T.nE_schedule, (by show 0 < 1000; decide), ?_⟩
    refine ⟨_, rfl, _, rfl, e, _, dx, _, rfl, upd_same, T.clE, T.nE_window, (by show 1 < 1000; decide), ?_⟩
    refine fun d hd => ?_
    have hd1 : H d = none ∧ d ≠ e := by
      by_cases e1 : d = e
      · rw [e1, upd_same] at hd; cases hd
      · rw [upd_ne e1, upd_ne e1] at hd
        exact ⟨hd, e1⟩
    obtain ⟨hd0, nde⟩ := hd1
    refine ⟨_, rfl, e, _, dx, _, rfl, (by rw [upd_ne nde.symm]; exact upd_same), T.clE, T.nE_waiting, (by show 2 < 1000; decide), ?_⟩
    refine k _ d (fun b o hb nb => ?_) upd_same hd0 ?_
    · rw [upd_ne nb, upd_ne (ne_of_none hb hd0), upd_ne nb, upd_ne nb]
      exact hb
    · rw [upd_ne nde, upd_same]
def sp_Expected_add (K : PySem.W.Frag) : Sp := fun vs H Q _ => ∃ (e p q : Addr) (R : Ru) (a b : Int) (W : Pend) (H0 : Hp) (x : Int) (k : Nat) (m : Int), vs = [.ref e, .int x, .int ((k : Int) + 1), .int m] ∧ ExpAt K H0 H e p q W ∧ RuleAt K H p R ∧ H q = some (.tup [.int a, .int b]) ∧
  R.has k = true ∧ (∀ t, R.t = .tim t → k + 1 ≤ R.n + 63) ∧ (flat W).length ≤ 500 ∧ ∀ H', ExpAt K H0 H' e p q (addW R b W x (k + 1) m) → Q .non H'
theorem sc_Expected_add : FnScope ["self", "start", "attempt", "count", "slot"] ["self", "start", "attempt", "count"] (defScope s_Expected_add) := ⟨rfl, rfl, rfl, by decide +kernel, rfl, by decide +kernel, by decide +kernel⟩
theorem ok_Expected_add {f : Addr} {fd : FuncData} (F : FunD K "add" "Expected.add" (defArgs s_Expected_add) (defBody s_Expected_add) (defScope s_Expected_add) [] [] f fd) (T : Txt K mg) (c_R_attempts : C8.Met P w K mg base 1 (cR K) "attempts" (sp_Rule_attempts K) []) (c_R_offset_of : C8.Met P w K mg base 2 (cR K) "offset_of" (sp_Rule_offset_of K) []) :
    FnOk P w K mg base CX0 3 f fd ["self", "start", "attempt", "count"] (sp_Expected_add K) := by
  refine F.ok sc_Expected_add (fun vs H Q E h => ?_) (fun cdv A outer s H vs Q E hr h => ?_)
  · obtain ⟨_, _, _, _, _, _, _, _, _, _, _, rfl, _⟩ := h
    rfl
  · have hu := hu_of hr
    obtain ⟨e, p, q, R, a, b, W, H0, x, kk, m, rfl, hE, hR, hq, hhas, hlim, h90, k⟩ := h
    obtain ⟨dx, d, kvs, he, hd0, hd, hg, hnd⟩ := hE.ex
    have ok := hR.ok
    have fsch : Fd K H (.ref e) "schedule" (.ref p) := ⟨e, _, dx, _, rfl, he, T.clE, T.nE_schedule, efs_schedule p q d⟩
    have fwin : Fd K H (.ref e) "window" (.ref q) := ⟨e, _, dx, _, rfl, he, T.clE, T.nE_window, efs_window p q d⟩
    have fwait : Fd K H (.ref e) "waiting" (.ref d) := ⟨e, _, dx, _, rfl, he, T.clE, T.nE_waiting, efs_waiting p q d⟩
    refine ⟨_, PSs.nox ((pss_cons (ps_if (pt_cmpR op_eq (pv 2) (pe_m0 c_R_attempts hr (by decide) (pe_f (pv 0))) (nomark _)) (pss_one ps_retN) pss_nil)
      (pss_cons (ps_set (i := 4) sc_Expected_add.nd rfl (by first | exact Or.inl rfl | exact Or.inr rfl) (pe_op op_add (pv 1) (pe_m c_R_offset_of hr (by decide) (pe_f (pv 0)) (pa_cons (pv 2) pa_nil))))
      (pss_one (ps_if (pt_cmpR op_lt (pv 4) (pe_ix ix_tup (pe_f (pv 0)) pe_int (fun _ _ => rfl)) (nomark _)) (pss_one (ps_expr (pe_bm PySem.F.plainAttrs_list PySem.F.slot_list_append PySem.F.type_list_append mt_append (pe_dsetd (pe_f (pv 0)) (pv 4) (pe_lst pa_nil) ⟨rfl, rfl, rfl, rfl⟩) (pa_cons (pe_tup (pa_cons (pv 1) (pa_cons (pv 2) (pa_cons (pv 3) pa_nil)))) pa_nil)))) pss_nil))))), ?_⟩
    have hl1 : decide (V.int ((kk : Int) + 1) = R.lim) = !R.has (kk + 1) := lim_eq R kk hhas
    refine ⟨_, rfl, _, rfl, _, fsch, hR.md mR_attempts, p, R, rfl, hR, lim_scal R _, _, rfl, ?_⟩
    refine ite2 (fun hc => ?_) (fun hc => ?_)
    · have hh : R.has (kk + 1) = false := by
        have : decide (V.int ((kk : Int) + 1) = R.lim) = true := hc
        rw [hl1] at this
        simpa using this
      refine k H ?_
      unfold addW
      rw [hh]
      exact hE
    have hh : R.has (kk + 1) = true := by
      have : ¬ decide (V.int ((kk : Int) + 1) = R.lim) = true := hc
      rw [hl1] at this
      simpa using this
    have ek : V.int ((kk : Int) + 1) = V.int ((kk + 1 : Nat) : Int) := rfl
    refine ⟨_, rfl, _, rfl, _, fsch, hR.md mR_offset_of, _, rfl, p, R, kk + 1, rfl, hR, hh, hlim, _, _, rfl, rfl, ?_⟩
    refine ⟨_, rfl, _, rfl, _, fwin, q, _, _, _, rfl, rfl, SqT.of hq, rfl, _, _, rfl, rfl, _, rfl, ?_⟩
    have e1 : addW R b W x (kk + 1) m = if x + R.off (kk + 1) < b then putW W (x + R.off (kk + 1)) (x, kk + 1, m) else W := by
      unfold addW
      rw [if_pos hh]
    refine ite2 (fun hc2 => ?_) (fun hc2 => ?_)
    · rw [if_pos (of_decide_eq_true hc2)] at e1
      rw [e1] at k
      have hWl := flat_len W hE.ok
      have hkl : kvs.length = W.length := pq_len hg
      refine ⟨_, rfl, _, fwait, d, rfl, .inl ⟨_, .inl hd⟩, _, rfl, by show 0 ≤ sizeLine; decide, fun ln hln => ?_⟩
      have hln0 : H0 ln = none := same_mem hE.same hln
      have ndl : d ≠ ln := ne_of_none hd hln
      have sl : Same H (upd H ln (.lst [])) := same_new hln
      refine ⟨kvs, .inl (x + R.off (kk + 1)), sl _ _ hd, rfl, szLt (by omega), fun v hv => ?_, fun hv => ?_⟩
      · rcases grp_find (y := x + R.off (kk + 1)) hg with ⟨a1, _⟩ | ⟨l, ts, a1, a2, a3, a4, a5⟩
        · rw [a1] at hv; cases hv
        rw [a1] at hv
        cases hv
        have hgl := getW_len W (x + R.off (kk + 1))
        have htl : ts.length = (getW W (x + R.off (kk + 1))).length := pq_len a4
        have a3' := sl _ _ a3
        refine ⟨.inl ⟨rfl, _, SqL.of a3'⟩, _, rfl, _, rfl, _, rfl, by show 3 ≤ sizeLine; decide, fun t ht => ?_⟩
        have st := sl.trans (same_new (o := .tup [V.int x, V.int ((kk : Int) + 1), V.int m]) ht)
        refine ⟨l, _, _, rfl, rfl, st _ _ a3, szLt (by rw [List.length_map]; omega), ?_⟩
        have hE2 := hE.mono st
        refine k _ ⟨same_mu hE2.same a2, hE.ok.put, dx, d, kvs, ?_, hd0, ?_, ?_, hnd⟩
        · rw [upd_ne (ne_of (st _ _ he) (st _ _ a3) (by intro z; cases z))]; exact st _ _ he
        · rw [upd_ne (ne_of (st _ _ hd) (st _ _ a3) (by intro z; cases z))]; exact st _ _ hd
        · exact grp_put (st _ _ a3) (show triAt _ t (x, kk + 1, m) from upd_same) (L2.Paired.mapP hg fun _ _ => Grp.mono st) hnd hE.ok.nd a1
      · rcases grp_find (y := x + R.off (kk + 1)) hg with ⟨a1, a2, _⟩ | ⟨l, ts, a1, _⟩
        rotate_left
        · rw [a1] at hv; cases hv
        have hu1 : (upd (upd H ln (.lst [])) d (.dK (putK kvs (.inl (x + R.off (kk + 1))) (.ref ln)))) ln = some (.lst []) := by rw [upd_ne ndl.symm, upd_same]
        refine ⟨.inl ⟨rfl, _, SqL.of hu1⟩, _, rfl, _, rfl, _, rfl, by show 3 ≤ sizeLine; decide, fun t ht => ?_⟩
        have ntl : ln ≠ t := ne_of_none hu1 ht
        have ntd : d ≠ t := ne_of_none upd_same ht
        have ht0 : H t = none := by
          rw [upd_ne ntd.symm, upd_ne ntl.symm] at ht
          exact ht
        refine ⟨ln, _, _, rfl, rfl, (by rw [upd_ne ntl]; exact hu1), szLt (by show 0 < 100000; decide), ?_⟩
        have keep : ∀ b u, H b = some u → b ≠ d → upd (upd (upd (upd H ln (.lst [])) d (.dK (putK kvs (.inl (x + R.off (kk + 1))) (.ref ln)))) t (.tup [.int x, .int ((kk : Int) + 1), .int m])) ln (.lst ([] ++ [.ref t])) b = some u := fun b u hb nb => by
          rw [upd_ne (ne_of_none hb hln), upd_ne (ne_of_none hb ht0), upd_ne nb, upd_ne (ne_of_none hb hln)]
          exact hb
        have hdl : ∀ {b : Addr} {u : HO}, H b = some u → (∀ z, u ≠ .dK z) → b ≠ d := fun hb hu => ne_of hb hd (hu kvs)
        refine k _ ⟨fun b u hb => keep b u (hE.same _ _ hb) (fun e => by rw [e, hd0] at hb; cases hb), hE.ok.put, dx, d, kvs ++ [(.inl (x + R.off (kk + 1)), .ref ln)], ?_, hd0, ?_, ?_, ?_⟩
        · exact keep _ _ he (hdl he fun z q => by cases q)
        · rw [upd_ne ndl, upd_ne ntd, upd_same, putK_new _ a1]
        · rw [putW_none a2]
          refine Paired.snoc (L2.Paired.mapP hg fun kv w ⟨l, ts, g1, g2, g3, g4⟩ => ⟨l, ts, g1, g2, keep _ _ g3 (hdl g3 fun z q => by cases q), L2.Paired.mapP g4 fun t2 z2 q => keep _ _ q (hdl q fun z q => by cases q)⟩) ⟨ln, [t], rfl, hln0, upd_same, .cons ?_ .nil⟩
          show upd _ _ _ _ = _
          rw [upd_ne ntl.symm, upd_same]
          rfl
        · rw [List.map_append, List.nodup_append]
          refine ⟨hnd, by simp, fun v1 hv1 v2 hv2 => ?_⟩
          simp at hv2
          rw [hv2]
          rintro rfl
          obtain ⟨kv, hkv, e3⟩ := List.mem_map.mp hv1
          obtain ⟨w, _, l, ts, g1, g2, g3, _⟩ := pq_mem hg hkv
          rw [g1] at e3
          injection e3 with e3
          rw [e3, hln] at g3
          cases g3
    · rw [if_neg fun z => hc2 (decide_eq_true z)] at e1
      rw [e1] at k
      exact k H hE
end
end My
set_option Elab.async false
set_option linter.all false
set_option maxRecDepth 100000
set_option maxHeartbeats 4000000
namespace My
open PySem PySem.Spec PyProof.Rows L2
section
variable {P : Program} {w : World} {K : PySem.W.Frag} {mg : Str → Option Value} {base : Heap}
def sp_Expected_next_slot (K : PySem.W.Frag) : Sp := fun vs H Q _ => ∃ (e p q : Addr) (W : Pend) (H0 : Hp), vs = [.ref e] ∧ ExpAt K H0 H e p q W ∧ ∀ v, ((W = [] ∧ v = .non) ∨ ∃ m, v = .int m ∧ m ∈ W.map (·.1)) → Q v H
theorem grp_keys {H0 H : Hp} : ∀ {kvs : List (Key × V)} {W : Pend}, Paired (Grp H0 H) kvs W → kvs.map (·.1) = (W.map (·.1)).map Sum.inl
  | _, _, .nil => rfl
  | kv :: kvs, w :: W, .cons h t => by
    obtain ⟨l, ts, rfl, _⟩ := h
    rw [List.map_cons, List.map_cons, List.map_cons, grp_keys t]
theorem sc_Expected_next_slot : FnScope ["self"] ["self"] (defScope s_Expected_next_slot) := ⟨rfl, rfl, rfl, by decide +kernel, rfl, by decide +kernel, by decide +kernel⟩
theorem ok_Expected_next_slot {f : Addr} {fd : FuncData} (F : FunD K "next_slot" "Expected.next_slot" (defArgs s_Expected_next_slot) (defBody s_Expected_next_slot) (defScope s_Expected_next_slot) [] [] f fd) (T : Txt K mg)  :
    FnOk P w K mg base CX0 1 f fd ["self"] (sp_Expected_next_slot K) := by
  refine F.ok sc_Expected_next_slot (fun vs H Q E h => ?_) (fun cdv A outer s H vs Q E hr h => ?_)
  · obtain ⟨_, _, _, _, _, rfl, _⟩ := h
    rfl
  · have hu := hu_of hr
    obtain ⟨e, p, q, W, H0, rfl, hE, k⟩ := h
    obtain ⟨dx, d, kvs, he, hd0, hd, hg, hnd⟩ := hE.ex
    have fwait : Fd K H (.ref e) "waiting" (.ref d) := ⟨e, _, dx, _, rfl, he, T.clE, T.nE_waiting, efs_waiting p q d⟩
    refine ⟨_, PSs.nox ((pss_one (ps_ret (pe_callBK (cr_minD rfl) (by rfl) T.f_min (by decide +kernel) (pa_cons (pe_f (pv 0)) pa_nil) (pk_cons pe_non pk_nil))))), ?_⟩
    refine ⟨_, rfl, _, fwait, d, kvs, W.map (·.1), .non, rfl, rfl, hd, grp_keys hg, fun hz => ?_, fun hz => ?_⟩
    · exact k _ (.inl ⟨List.map_eq_nil_iff.mp hz, rfl⟩)
    · exact fun m h1 h2 => k _ (.inr ⟨m, rfl, h1⟩)
def sp_Expected_take (K : PySem.W.Frag) : Sp := fun vs H Q _ => ∃ (e p q : Addr) (R : Ru) (a b : Int) (W : Pend) (H0 : Hp) (y : Int), vs = [.ref e, .int y] ∧ ExpAt K H0 H e p q W ∧ RuleAt K H0 p R ∧ H0 q = some (.tup [.int a, .int b]) ∧
  (∀ z ∈ getW W y, R.has z.2.1 = true ∧ ∀ t, R.t = .tim t → z.2.1 + 1 ≤ R.n + 63) ∧ (flat W).length ≤ 200 ∧ ∀ H', ExpAt K H0 H' e p q (takeW R b W y) → Q (.int (sumW W y)) H'
theorem pq_mapm {α β : Type} {F G : α → β → Prop} : ∀ {xs : List α} {ys : List β}, (∀ x y, x ∈ xs → F x y → G x y) → Paired F xs ys → Paired G xs ys
  | _, _, _, .nil => .nil
  | _, _, h, .cons a t => .cons (h _ _ (List.mem_cons_self ..) a) (pq_mapm (fun x y m => h x y (List.mem_cons_of_mem _ m)) t)
theorem nodup_inj {α β : Type} {f : α → β} : ∀ {l : List α} {x y : α}, (l.map f).Nodup → x ∈ l → y ∈ l → f x = f y → x = y
  | z :: l, x, y, h, hx, hy, e => by
    rw [List.map_cons, List.nodup_cons] at h
    rcases List.mem_cons.mp hx with hx | hx <;> rcases List.mem_cons.mp hy with hy | hy
    · rw [hx, hy]
    · exact absurd (by rw [← hx, e]; exact List.mem_map_of_mem hy) h.1
    · exact absurd (by rw [← hy, ← e]; exact List.mem_map_of_mem hx) h.1
    · exact nodup_inj h.2 hx hy e
theorem pop_grp (T : Txt K mg) {H0 H : Hp} {e p q : Addr} {W : Pend} {y : Int} {σ : L2.St} {Q : VK} (hσ0 : σ[0]? = some (some (.ref e))) (hσ1 : σ[1]? = some (some (.int y))) (hE : ExpAt K H0 H e p q W)
    (k : ∀ (l : Addr) (ts : List Addr) (Hx Hb : Hp), Same H0 Hb → Hb l = some (.lst (ts.map V.ref)) → Paired (triAt Hb) ts (getW W y) → ExpAt K Hb Hx e p q (dropW W y) → Q (.ref l) Hx) :
    tDPop2 (tF K (tVar 0) "waiting") (tVar 1) (tLst tNil) σ H Q := by
  obtain ⟨dx, d, kvs, he, hd0, hd, hg, hnd⟩ := hE.ex
  have fwait : Fd K H (.ref e) "waiting" (.ref d) := ⟨e, _, dx, _, rfl, he, T.clE, T.nE_waiting, efs_waiting p q d⟩
  refine ⟨_, hσ0, _, fwait, d, rfl, .inl ⟨_, .inl hd⟩, _, hσ1, by show 0 ≤ sizeLine; decide, fun ln hln => ?_⟩
  have sl : Same H (upd H ln (.lst [])) := same_new hln
  refine ⟨kvs, .inl y, sl _ _ hd, rfl, fun v hv => ?_, fun hv => ?_⟩
  · rcases grp_find (y := y) hg with ⟨a1, _⟩ | ⟨l, ts, a1, a2, a3, a4, a5⟩
    · rw [a1] at hv; cases hv
    rw [a1] at hv
    cases hv
    have keep : ∀ b u, H b = some u → b ≠ d → upd (upd H ln (.lst [])) d (.dK (dropK kvs (.inl y))) b = some u := fun b u hb nb => by
      rw [upd_ne nb]; exact sl _ _ hb
    have hdl : ∀ {b : Addr} {u : HO}, H b = some u → (∀ z, u ≠ .dK z) → b ≠ d := fun hb hu => ne_of hb hd (hu kvs)
    have nlm : V.ref l ∉ (dropK kvs (.inl y)).map (·.2) := by
      intro hm
      obtain ⟨kv, hkv, e3⟩ := List.mem_map.mp hm
      unfold dropK at hkv
      rw [List.mem_filter] at hkv
      obtain ⟨v0, hv1, hv2⟩ := Option.map_eq_some_iff.mp a1
      have h1 := List.mem_of_find?_eq_some hv1
      have h2 := List.find?_some hv1
      have h3 : kv = v0 := nodup_inj hnd hkv.1 h1 (e3.trans hv2.symm)
      rw [h3] at hkv
      simp at h2 hkv
      exact hkv.2 h2
    refine k l ts _ (fun b => if b = l ∨ b ∈ ts then H b else H0 b) (fun b u hb => ?_) (by rw [if_pos (.inl rfl)]; exact a3) ?_ ⟨fun b u hb => ?_, hE.ok.drop y, dx, d, dropK kvs (.inl y), ?_, ?_, upd_same, ?_, ?_⟩
    · show (if b = l ∨ b ∈ ts then H b else H0 b) = _
      split
      · exact hE.same _ _ hb
      · exact hb
    · exact pq_mapm (fun t z hm q => by
        show (if t = l ∨ t ∈ ts then H t else H0 t) = _
        rw [if_pos (.inr hm)]
        exact q) a4
    · have hb' : (if b = l ∨ b ∈ ts then H b else H0 b) = some u := hb
      split at hb'
      · rename_i hor
        refine keep b u hb' ?_
        rcases hor with e1 | e1
        · rw [e1] at hb' ⊢
          exact hdl a3 fun z q => by cases q
        · obtain ⟨z, _, hz⟩ := pq_mem a4 e1
          exact hdl hz fun z q => by cases q
      · exact keep b u (hE.same _ _ hb') fun e1 => by rw [e1, hd0] at hb'; cases hb'
    · exact keep _ _ he (hdl he fun z q => by cases q)
    · show (if d = l ∨ d ∈ ts then H d else H0 d) = none
      rw [if_neg ?_]
      · exact hd0
      · rintro (e1 | e1)
        · rw [e1, a3] at hd; cases hd
        · obtain ⟨z, _, hz⟩ := pq_mem a4 e1
          rw [show H d = _ from hz] at hd; cases hd
    · refine pq_mapm (fun kv w hm ⟨l2, ts2, g1, g2, g3, g4⟩ => ⟨l2, ts2, g1, ?_, keep _ _ g3 (hdl g3 fun z q => by cases q), L2.Paired.mapP g4 fun t2 z2 q => keep _ _ q (hdl q fun z q => by cases q)⟩) (grp_dropW hg)
      show (if l2 = l ∨ l2 ∈ ts then H l2 else H0 l2) = none
      rw [if_neg ?_]
      · exact g2
      · rintro (e1 | e1)
        · refine nlm ?_
          rw [← e1]
          exact List.mem_map.mpr ⟨kv, hm, by rw [g1]⟩
        · obtain ⟨z, _, hz⟩ := pq_mem a4 e1
          rw [show H l2 = _ from hz] at g3; cases g3
    · exact hnd.sublist (List.Sublist.map _ List.filter_sublist)
  · rcases grp_find (y := y) hg with ⟨a1, a2, a3⟩ | ⟨l, ts, a1, _⟩
    rotate_left
    · rw [a1] at hv; cases hv
    have e1 : dropW W y = W := List.filter_eq_self.mpr fun w hw => by
      have : w.1 ≠ y := fun e => a2 (by rw [← e]; exact List.mem_map_of_mem hw)
      simpa using this
    rw [e1, a3] at k
    exact k ln [] _ _ (same_new (same_mem hE.same hln)) upd_same .nil (hE.chg (.inl hln))
theorem sc_Expected_take : FnScope ["self", "slot", "groups", "start", "attempt", "count"] ["self", "slot"] (defScope s_Expected_take) := ⟨rfl, rfl, rfl, by decide +kernel, rfl, by decide +kernel, by decide +kernel⟩
theorem ok_Expected_take {f : Addr} {fd : FuncData} (F : FunD K "take" "Expected.take" (defArgs s_Expected_take) (defBody s_Expected_take) (defScope s_Expected_take) [] [] f fd) (T : Txt K mg) (c_E_add : C8.Met P w K mg base 3 (cE K) "add" (sp_Expected_add K) []) :
    FnOk P w K mg base CX0 4 f fd ["self", "slot"] (sp_Expected_take K) := by
  refine F.ok sc_Expected_take (fun vs H Q E h => ?_) (fun cdv A outer s H vs Q E hr h => ?_)
  · obtain ⟨_, _, _, _, _, _, _, _, _, rfl, _⟩ := h
    rfl
  · have hu := hu_of hr
    obtain ⟨e, p, q, R, a, b, W, H0, y, rfl, hE, hR, hq, hz, h40, k⟩ := h
    have ok := hR.ok
    refine ⟨_, PSs.nox ((pss_cons (ps_set (i := 2) sc_Expected_take.nd rfl (by first | exact Or.inl rfl | exact Or.inr rfl) (pe_dpop2 (pe_f (pv 0)) (pv 1) (pe_lst pa_nil) ⟨rfl, rfl, rfl, rfl⟩))
      (pss_cons (ps_for PassesOwn.never rfl (pi_list (pv 2)) (pg_tup rfl (pgs_cons (pg_name (i := 3) sc_Expected_take.nd rfl (by first | exact Or.inl rfl | exact Or.inr rfl)) (pgs_cons (pg_name (i := 4) sc_Expected_take.nd rfl (by first | exact Or.inl rfl | exact Or.inr rfl)) (pgs_cons (pg_name (i := 5) sc_Expected_take.nd rfl (by first | exact Or.inl rfl | exact Or.inr rfl)) pgs_nil)))) (pss_one (ps_expr (pe_m c_E_add hr (by decide) (pv 0) (pa_cons (pv 3) (pa_cons (pe_op op_add (pv 4) pe_int) (pa_cons (pv 5) pa_nil)))))))
      (pss_one (ps_ret (pe_callB (cr_sum rfl) (by rfl) T.f_sum (by decide +kernel) (pa_cons (pe_lc (own := [("start", 3), ("attempt", 4), ("count", 5)]) (g := (gTup K 3 (gCons (gName 3) (gCons (gName 4) (gCons (gName 5) gNil))))) (tt := tYes) rfl sc_Expected_take.nd (pi_list (pv 2)) (blkOk_by (own := [("start", 3), ("attempt", 4), ("count", 5)]) (N := ["self", "slot", "groups", "start", "attempt", "count"]) (sc := defScope s_Expected_take) (by decide +kernel)) (fun _ _ _ _ _ => (pg_tup rfl (pgs_cons (pg_name (i := 3) sc_Expected_take.nd rfl (by first | exact Or.inl rfl | exact Or.inr rfl)) (pgs_cons (pg_name (i := 4) sc_Expected_take.nd rfl (by first | exact Or.inl rfl | exact Or.inr rfl)) (pgs_cons (pg_name (i := 5) sc_Expected_take.nd rfl (by first | exact Or.inl rfl | exact Or.inr rfl)) pgs_nil))))) (fun _ _ _ _ _ => pts_nil) (fun _ _ _ _ _ => (pv 5))) pa_nil))))))), ?_⟩
    refine pop_grp (σ := [some (.ref e), some (.int y), none, none, none, none]) T rfl rfl hE fun l ts Hx Hb sb hl hts hEx => ?_
    have hgl := getW_len W y
    have htl : ts.length = (getW W y).length := pq_len hts
    have hdl : (flat (dropW W y)).length ≤ (flat W).length := by rw [flat_drop]; exact List.length_filter_le _ _
    refine ⟨_, rfl, l, rfl, ⟨ts.map V.ref, SqL.of (hEx.same _ _ hl)⟩, for_list (K := K) (a := l) (xs := ts.map V.ref) (fun i σ' H' => ∃ v3 v4 v5 : Option V, σ' = [some (.ref e), some (.int y), some (.ref l), v3, v4, v5] ∧
      ExpAt K Hb H' e p q (((getW W y).take i).foldl (addS R b) (dropW W y))) ?_ ?_ ?_ ?_⟩
    · exact ⟨none, none, none, rfl, hEx⟩
    · rintro i σ' H' _ ⟨_, _, _, _, hE2⟩
      exact SqL.of (hE2.same _ _ hl)
    · rintro i x σ' H' hx ⟨v3, v4, v5, rfl, hE2⟩
      rw [List.getElem?_map] at hx
      obtain ⟨t, ht, rfl⟩ := Option.map_eq_some_iff.mp hx
      obtain ⟨z, hz1, hz2⟩ := pq_get hts ht
      obtain ⟨g1, g2⟩ := hz z (List.mem_of_getElem? hz1)
      have hbound : (flat (((getW W y).take i).foldl (addS R b) (dropW W y))).length ≤ 500 := by
        have h1 := (flat_adds R b ((getW W y).take i) (dropW W y)).length_eq
        rw [h1, List.length_append]
        have h2 : ∀ zs : List Tri, (zs.flatMap (addLS R b)).length ≤ zs.length := fun zs => by
          induction zs with
          | nil => exact Nat.le_refl _
          | cons z zs ih =>
            rw [List.flatMap_cons, List.length_append, List.length_cons]
            have : (addLS R b z).length ≤ 1 := by
              unfold addLS addL
              split
              · split <;> simp
              · simp
            omega
        have h3 := h2 ((getW W y).take i)
        rw [List.length_take] at h3
        omega
      refine ⟨t, _, rfl, SqT.of (hE2.same _ _ hz2), rfl, _, _, rfl, _, _, rfl, _, _, rfl, rfl, ?_⟩
      refine ⟨_, rfl, hE2.md mE_add, _, rfl, _, rfl, _, _, rfl, rfl, _, rfl, e, p, q, R, a, b, _, Hb, z.1, z.2.1, z.2.2, rfl, hE2, (hR.mono sb).mono hE2.same, hE2.same _ _ (sb _ _ hq), g1, g2, hbound, fun H3 hE3 => ?_⟩
      refine ⟨_, _, _, rfl, ?_⟩
      rw [List.take_add_one, hz1, List.foldl_append]
      exact hE3
    · rintro σ' H' ⟨v3, v4, v5, rfl, hE2⟩
      have e1 : (ts.map V.ref).length = (getW W y).length := by rw [List.length_map, htl]
      rw [e1, List.take_length] at hE2
      have hl2 := hE2.same _ _ hl
      refine ⟨_, rfl, l, rfl, ⟨_, SqL.of hl2⟩, fun D hD => lc_pure (walk_list (K := K) (a := l) (xs := ts.map V.ref)) (fun _ => true) (fun i v _ => v = .int ((getW W y).getD i (0, 0, 0)).2.2) (fun _ _ _ _ _ h => h) hD (by omega) (fun H1 e => e.seq (SqL.of hl2)) ?_ ?_⟩
      · rintro i x H3 H4 Ky Kn hi s3 ⟨rfl, hx⟩ hy _
        rw [List.getElem?_map] at hx
        obtain ⟨t, ht, rfl⟩ := Option.map_eq_some_iff.mp hx
        obtain ⟨z, hz1, hz2⟩ := pq_get hts ht
        have hgd : (getW W y).getD i (0, 0, 0) = z := by rw [List.getD_eq_getElem?_getD, hz1]; rfl
        rw [hgd] at hy
        refine ⟨t, _, rfl, SqT.of (s3 _ _ (hE2.same _ _ hz2)), rfl, _, _, rfl, _, _, rfl, _, _, rfl, rfl, rfl, yes_te ⟨_, rfl, hy rfl _ _ rfl (Same.refl _)⟩⟩
      · intro H3 acc s3 hD3 hm
        have hacc := Made.fn (H := H3) (f := fun i => V.int ((getW W y).getD i (0, 0, 0)).2.2) hm
        have hkeep : ((List.range (ts.map V.ref).length).filter fun _ => true) = List.range (getW W y).length := by rw [e1]; exact List.filter_eq_self.mpr fun _ _ => rfl
        rw [hkeep] at hacc
        have hacc2 : acc = ((getW W y).map fun z => z.2.2).map V.int := by
          rw [hacc]
          refine List.ext_getElem (by simp) fun i h1 h2 => ?_
          simp only [List.length_map] at h2
          simp [List.getD_eq_getElem?_getD, h2]
        refine ⟨D, _, rfl, by rw [← hacc2]; exact SqL.of hD3, ?_⟩
        exact k _ ((hE2.mono s3).weaken sb)
end
end My
set_option Elab.async false
set_option linter.all false
set_option maxRecDepth 100000
set_option maxHeartbeats 4000000
namespace My
open PySem PySem.Spec PyProof.Rows L2
section
variable {P : Program} {w : World} {K : PySem.W.Frag} {mg : Str → Option Value} {base : Heap}
structure IsDue (ss : List Int) (F : List (Int × Int)) : Prop where
  asc : F.Pairwise fun x y => x.1 < y.1
  mem : ∀ q : Int × Int, q ∈ F ↔ q.1 ∈ ss ∧ q.2 = (ss.count q.1 : Nat)
def sp_infer_starts (K : PySem.W.Frag) : Sp := fun vs H Q _ => ∃ (p q l : Addr) (R : Ru) (a b : Int) (ss : List Int) (ps : List (Int × Int)), vs = [.ref p, .ref q, .ref l] ∧ RuleAt K H p R ∧ H q = some (.tup [.int a, .int b]) ∧ PairsAt H l ps ∧ IsLog a b (cnt R ss) ps ∧
  b - a ≤ 100 ∧ a < b ∧ (∀ x ∈ ss, a ≤ x ∧ x < b) ∧ (∀ t, R.t = .tim t → ∀ x ∈ ss, b - x ≤ 2 ^ 40) ∧ ∀ t d qs H', Same H H' → H' t = some (.tup [.str "starts", .ref d]) → PairsAt H' d qs → IsDue ss qs → Q (.ref t) H'
/-- where the reading of the log stands -/
structure RdLog (R : Ru) (b : Int) (ss : List Int) (ps : List (Int × Int)) (i : Nat) (t : Int) (F : List (Int × Int)) (W : Pend) : Prop where
  fnd : IsFound ss t F
  perm : (flat W).Perm (pend R b t F)
  tb : t ≤ b
  cut : ∀ j z, ps[j]? = some z → (z.1 < t ↔ j < i)
theorem RdLog.hit {R : Ru} (ok : R.Ok) {a b t : Int} {ss : List Int} {ps F : List (Int × Int)} {i : Nat} {W : Pend} (h : RdLog R b ss ps i t F W) (hss : ∀ x ∈ ss, a ≤ x ∧ x < b) {y : Int} {z : Tri} (hm : (y, z) ∈ flat W) :
    ∃ q ∈ F, due R b t q = some (y, z) ∧ t ≤ y ∧ y < b ∧ 0 < cnt R ss y ∧ a ≤ y := by
  obtain ⟨q, hq, hd⟩ := pend_mem.mp (h.perm.mem_iff.mp hm)
  obtain ⟨k, g1, g2, g3, g4, g5, _⟩ := (due_some ok).mp hd
  have h1 := ((h.fnd.mem q).mp hq).1
  have h2 := R.off_nn ok k
  have h3 := hss _ h1
  exact ⟨q, hq, hd, g2, g5, List.countP_pos_iff.mpr ⟨q.1, h1, (Ru.hit_iff ok).mpr ⟨k, g1, by omega⟩⟩, by omega⟩
theorem RdLog.next {R : Ru} (ok : R.Ok) {a b t : Int} {ss : List Int} {ps F : List (Int × Int)} {i : Nat} {W : Pend} (hlog : IsLog a b (cnt R ss) ps) (hss : ∀ x ∈ ss, a ≤ x ∧ x < b) (h : RdLog R b ss ps i t F W) {y : Int} (hy : a ≤ y ∧ y < b) (hty : t ≤ y) (hc : 0 < cnt R ss y) :
    ∃ j z, i ≤ j ∧ ps[j]? = some z ∧ z.1 = y := by
  have hm := (hlog.mem (y, (cnt R ss y : Int))).mpr ⟨hy, hc, rfl⟩
  obtain ⟨j, hj⟩ := List.mem_iff_getElem?.mp hm
  refine ⟨j, _, ?_, hj, rfl⟩
  have := h.cut j _ hj
  dsimp only at this
  omega
theorem RdLog.low {R : Ru} (ok : R.Ok) {a b t : Int} {ss : List Int} {ps F : List (Int × Int)} {i : Nat} {W : Pend} (hlog : IsLog a b (cnt R ss) ps) (hss : ∀ x ∈ ss, a ≤ x ∧ x < b) (h : RdLog R b ss ps i t F W) {s : Int × Int} (hs : ps[i]? = some s)
    {y : Int} (hy : a ≤ y ∧ y < b) (hty : t ≤ y) (hc : 0 < cnt R ss y) : s.1 ≤ y := by
  obtain ⟨j, z, hj, hz, rfl⟩ := h.next ok hlog hss hy hty hc
  rcases Nat.lt_or_eq_of_le hj with q | q
  · obtain ⟨b1, c1⟩ := List.getElem?_eq_some_iff.mp hs
    obtain ⟨b2, c2⟩ := List.getElem?_eq_some_iff.mp hz
    have := List.pairwise_iff_getElem.mp hlog.asc i j b1 b2 q
    rw [c1, c2] at this
    omega
  · subst q
    rw [hs] at hz
    cases hz
    exact Int.le_refl _
theorem cnt_self {R : Ru} (ok : R.Ok) {ss : List Int} {x : Int} (h : x ∈ ss) : 0 < cnt R ss x :=
  List.countP_pos_iff.mpr ⟨x, h, by rw [Int.sub_self]; exact (Ru.hit_iff ok).mpr ⟨0, by unfold Ru.has; simp, rfl⟩⟩
/-- up to the next entry nothing is due -/
theorem RdLog.jump {R : Ru} (ok : R.Ok) {a b t : Int} {ss : List Int} {ps F : List (Int × Int)} {i : Nat} {W : Pend} (hlog : IsLog a b (cnt R ss) ps) (hss : ∀ x ∈ ss, a ≤ x ∧ x < b) (h : RdLog R b ss ps i t F W) {s : Int × Int} (hs : ps[i]? = some s) :
    RdLog R b ss ps i s.1 F W ∧ s.1 < b := by
  have hts : t ≤ s.1 := by
    have := h.cut i s hs
    omega
  have hw := ((hlog.mem s).mp (List.mem_of_getElem? hs)).1
  refine ⟨⟨⟨h.fnd.asc, fun q => ?_⟩, ?_, by omega, fun j z hz => ?_⟩, hw.2⟩
  · rw [h.fnd.mem q]
    constructor
    · rintro ⟨h1, h2, h3⟩
      exact ⟨h1, by omega, h3⟩
    · rintro ⟨h1, h2, h3⟩
      refine ⟨h1, ?_, h3⟩
      rcases Int.lt_or_le q.1 t with g | g
      · exact g
      · have := h.low ok hlog hss hs (hss _ h1) g (cnt_self ok h1)
        omega
  · refine h.perm.trans ?_
    rw [pend_jump ok hts fun v hv => ?_]
    obtain ⟨q, hq, hd, g2, g5, g6, g7⟩ := h.hit ok hss (y := v.1) (z := v.2) (h.perm.mem_iff.mpr hv)
    exact h.low ok hlog hss hs ⟨g7, g5⟩ g2 g6
  · obtain ⟨b1, c1⟩ := List.getElem?_eq_some_iff.mp hs
    obtain ⟨b2, c2⟩ := List.getElem?_eq_some_iff.mp hz
    constructor
    · intro q
      rcases Nat.lt_or_ge j i with g | g
      · exact g
      · exfalso
        rcases Nat.lt_or_eq_of_le g with g | g
        · have := List.pairwise_iff_getElem.mp hlog.asc i j b1 b2 g
          rw [c1, c2] at this
          omega
        · subst g
          rw [hs] at hz; cases hz; omega
    · intro q
      have := List.pairwise_iff_getElem.mp hlog.asc j i b2 b1 q
      rw [c1, c2] at this
      exact this
theorem RdLog.step {R : Ru} (ok : R.Ok) {a b : Int} {ss : List Int} {ps F : List (Int × Int)} {i : Nat} {W : Pend} (hlog : IsLog a b (cnt R ss) ps) (hss : ∀ x ∈ ss, a ≤ x ∧ x < b) {s : Int × Int} (hs : ps[i]? = some s) (h : RdLog R b ss ps i s.1 F W) (hb : s.1 < b) (hW : PendOk W) :
    s.2 = sumW W s.1 + (ss.count s.1 : Nat) ∧
    (ss.count s.1 = 0 → RdLog R b ss ps (i + 1) (s.1 + 1) F (takeW R b W s.1)) ∧
    (0 < ss.count s.1 → RdLog R b ss ps (i + 1) (s.1 + 1) (F ++ [(s.1, ((ss.count s.1 : Nat) : Int))]) (addW R b (takeW R b W s.1) s.1 1 (ss.count s.1 : Nat))) := by
  have hflat : (flat (takeW R b W s.1)).Perm (pend R b (s.1 + 1) F) := by
    rw [← pend_next ok]
    exact (flat_take R b hW s.1).trans (perm_flatMap _ h.perm)
  have hcut : ∀ j z, ps[j]? = some z → (z.1 < s.1 + 1 ↔ j < i + 1) := fun j z hz => by
    have h1 := h.cut j z hz
    obtain ⟨b1, c1⟩ := List.getElem?_eq_some_iff.mp hs
    obtain ⟨b2, c2⟩ := List.getElem?_eq_some_iff.mp hz
    rcases Nat.lt_trichotomy j i with g | g | g
    · omega
    · subst g
      rw [hs] at hz; cases hz; omega
    · have := List.pairwise_iff_getElem.mp hlog.asc i j b1 b2 g
      rw [c1, c2] at this
      omega
  refine ⟨?_, fun h0 => ⟨⟨h.fnd.asc, fun q => ?_⟩, hflat, by omega, hcut⟩, fun h0 => ⟨⟨?_, fun q => ?_⟩, ?_, by omega, hcut⟩⟩
  · rw [sumW_eq ok hb hW h.perm, h.fnd.sum R s.1, ((hlog.mem s).mp (List.mem_of_getElem? hs)).2.2, cnt_split ok ss s.1]
    rfl
  · rw [h.fnd.mem q]
    constructor
    · rintro ⟨h1, h2, h3⟩
      exact ⟨h1, by omega, h3⟩
    · rintro ⟨h1, h2, h3⟩
      refine ⟨h1, ?_, h3⟩
      rcases Int.lt_trichotomy q.1 s.1 with g | g | g
      · exact g
      · rw [g] at h1
        have := List.count_pos_iff.mpr h1
        omega
      · omega
  · rw [List.pairwise_append]
    refine ⟨h.fnd.asc, List.pairwise_singleton .., fun x hx y hy => ?_⟩
    rw [List.mem_singleton] at hy
    rw [hy]
    exact ((h.fnd.mem x).mp hx).2.1
  · rw [List.mem_append, List.mem_singleton, h.fnd.mem q]
    constructor
    · rintro (⟨h1, h2, h3⟩ | rfl)
      · exact ⟨h1, by omega, h3⟩
      · exact ⟨List.count_pos_iff.mp h0, by dsimp only; omega, rfl⟩
    · rintro ⟨h1, h2, h3⟩
      rcases Int.lt_or_le q.1 s.1 with g | g
      · exact .inl ⟨h1, g, h3⟩
      · have e : q.1 = s.1 := by omega
        right
        rw [e] at h3
        exact Prod.ext e h3
  · refine (flat_add R b _ _ _ _).trans ?_
    have e1 : pend R b (s.1 + 1) (F ++ [(s.1, ((ss.count s.1 : Nat) : Int))]) = pend R b (s.1 + 1) F ++ addL R b s.1 1 (ss.count s.1 : Nat) := by
      show List.filterMap _ _ = _
      rw [List.filterMap_append]
      show pend R b (s.1 + 1) F ++ pend R b (s.1 + 1) [(s.1, ((ss.count s.1 : Nat) : Int))] = _
      rw [pend_cons]
      show _ ++ (_ ++ []) = _
      rw [List.append_nil]
      congr 1
      have h0 : R.has 0 = true := by unfold Ru.has; simp
      have e2 : due R b s.1 (s.1, ((ss.count s.1 : Nat) : Int)) = some (s.1, (s.1, 0, ((ss.count s.1 : Nat) : Int))) := (due_some ok).mpr ⟨0, h0, Int.le_refl _, by show s.1 = s.1 + R.off 0; show s.1 = s.1 + 0; omega, fun j hj => absurd hj (Nat.not_lt_zero j), hb, rfl⟩
      rw [due_next ok, e2, Option.toList_some, List.flatMap_cons, List.flatMap_nil, List.append_nil]
      unfold stepT
      rw [if_pos rfl]
      rfl
    rw [e1]
    exact List.Perm.append_right _ hflat
theorem RdLog.small {R : Ru} {a b t : Int} {ss : List Int} {ps F : List (Int × Int)} {i : Nat} {W : Pend} (h : RdLog R b ss ps i t F W) (hss : ∀ x ∈ ss, a ≤ x ∧ x < b) (h100 : b - a ≤ 100) : (flat W).length ≤ 100 ∧ F.length ≤ 100 := by
  have h1 : F.length ≤ 100 := by
    have := nodup_in a 100 (asc_nodup h.fnd.asc) fun x hx => by
      obtain ⟨q, hq, rfl⟩ := List.mem_map.mp hx
      have := hss _ ((h.fnd.mem q).mp hq).1
      omega
    rwa [List.length_map] at this
  refine ⟨?_, h1⟩
  rw [h.perm.length_eq]
  exact Nat.le_trans (List.length_filterMap_le _ _) h1
theorem RdLog.zs {R : Ru} (ok : R.Ok) {b t : Int} {ss : List Int} {ps F : List (Int × Int)} {i : Nat} {W : Pend} (hW : PendOk W) (h : RdLog R b ss ps i t F W) (hlim : ∀ t, R.t = .tim t → ∀ x ∈ ss, b - x ≤ 2 ^ 40) (y : Int) :
    ∀ z ∈ getW W y, R.has z.2.1 = true ∧ ∀ t, R.t = .tim t → z.2.1 + 1 ≤ R.n + 63 := by
  intro z hz
  have hm : (y, z) ∈ flat W := by
    have : (y, z) ∈ (flat W).filter (fun q => decide (q.1 = y)) := by rw [flat_get hW.nd]; exact List.mem_map_of_mem hz
    exact (List.mem_filter.mp this).1
  obtain ⟨q, hq, hd⟩ := pend_mem.mp (h.perm.mem_iff.mp hm)
  obtain ⟨k, g1, g2, g3, g4, g5, rfl⟩ := (due_some ok).mp hd
  refine ⟨g1, fun tt e => ?_⟩
  have h1 := hlim tt e q.1 ((h.fnd.mem q).mp hq).1
  have := Ru.lid ok e (d := b - q.1) h1 (a := k) fun j hj => (by have := g4 j hj; have := h.tb; omega)
  show k + 1 ≤ _
  omega
theorem PendOk.key {W : Pend} (h : PendOk W) {y : Int} (hy : y ∈ W.map (·.1)) : ∃ z, (y, z) ∈ flat W := by
  induction W with
  | nil => cases hy
  | cons w W ih =>
    have nd := h.nd
    rw [List.map_cons, List.nodup_cons] at nd
    rw [List.map_cons, List.mem_cons] at hy
    rcases hy with rfl | hy
    · obtain ⟨z, hz⟩ := List.exists_mem_of_ne_nil _ (h.ne w (List.mem_cons_self ..))
      exact ⟨z, List.mem_append_left _ (List.mem_map_of_mem hz)⟩
    · obtain ⟨z, hz⟩ := ih ⟨nd.2, fun v hv => h.ne v (List.mem_cons_of_mem _ hv)⟩ hy
      exact ⟨z, List.mem_append_right _ hz⟩
theorem early_no {σ : L2.St} {H : Hp} {s : Int} {v : V} {Kb : Bool → Hp → Prop} (h7 : σ[7]? = some (some v)) (h5 : σ[5]? = some (some (.int s))) (hv : v = .non ∨ ∃ m, v = .int m ∧ s ≤ m) (k : Kb false H) :
    tAnd (tTest (tOp (fun x y H Q => y = .non ∧ Q (.bl (!decide (x = .non))) H) (tVar 7) (tC .non))) (tTest (tOp (rI0 fun i j => .bl (decide (i < j))) (tVar 7) (tVar 5))) σ H Kb := by
  rcases hv with rfl | ⟨m, rfl, hm⟩
  · exact ⟨_, h7, rfl, false, rfl, k⟩
  · exact ⟨_, h7, rfl, true, rfl, _, h7, _, h5, _, _, rfl, rfl, false, congrArg V.bl (decide_eq_false (by omega)), k⟩
theorem sc_infer_starts : FnScope ["rule", "window", "log", "expected", "starts", "slot", "count", "early", "known"] ["rule", "window", "log"] (defScope s_infer_starts) := ⟨rfl, rfl, rfl, by decide +kernel, rfl, by decide +kernel, by decide +kernel⟩
theorem ok_infer_starts {f : Addr} {fd : FuncData} (F : FunD K "infer_starts" "infer_starts" (defArgs s_infer_starts) (defBody s_infer_starts) (defScope s_infer_starts) [] [] f fd) (T : Txt K mg) (c_E_add : C8.Met P w K mg base 3 (cE K) "add" (sp_Expected_add K) []) (c_E_next_slot : C8.Met P w K mg base 1 (cE K) "next_slot" (sp_Expected_next_slot K) []) (c_E_take : C8.Met P w K mg base 4 (cE K) "take" (sp_Expected_take K) []) (c_Expected : C8.Mak P w K mg base 1 "Expected" (cE K) (sp_Expected_init K) []) (c_check_log : C8.Cal P w K mg base 3 "check_log" (sp_check_log K) []) (c_check_window : C8.Cal P w K mg base 2 "check_window" (sp_check_window K) []) :
    FnOk P w K mg base CX0 5 f fd ["rule", "window", "log"] (sp_infer_starts K) := by
  refine F.ok sc_infer_starts (fun vs H Q E h => ?_) (fun cdv A outer s H vs Q E hr h => ?_)
  · obtain ⟨_, _, _, _, _, _, _, _, rfl, _⟩ := h
    rfl
  · have hu := hu_of hr
    obtain ⟨p, q, l, R, a, b, ss, ps, rfl, hR, hq, hl, hlog, h100, hab, hss, hlim, k⟩ := h
    have ok := hR.ok
    refine ⟨_, PSs.nox ((pss_cons (ps_expr (C8.pe_c c_check_window hr (by decide) (by rfl) (pa_cons (pv 1) pa_nil)))
      (pss_cons (ps_expr (C8.pe_c c_check_log hr (by decide) (by rfl) (pa_cons (pv 1) (pa_cons (pv 2) pa_nil))))
      (pss_cons (ps_set (i := 3) sc_infer_starts.nd rfl (by first | exact Or.inl rfl | exact Or.inr rfl) (C8.pe_mk c_Expected hr (by decide) (by rfl) (pa_cons (pv 0) (pa_cons (pv 1) pa_nil))))
      (pss_cons (ps_set (i := 4) sc_infer_starts.nd rfl (by first | exact Or.inl rfl | exact Or.inr rfl) (pe_lst pa_nil))
      (pss_cons (ps_for PassesOwn.never rfl (pi_list (pv 2)) (pg_tup rfl (pgs_cons (pg_name (i := 5) sc_infer_starts.nd rfl (by first | exact Or.inl rfl | exact Or.inr rfl)) (pgs_cons (pg_name (i := 6) sc_infer_starts.nd rfl (by first | exact Or.inl rfl | exact Or.inr rfl)) pgs_nil))) (pss_cons (ps_set (i := 7) sc_infer_starts.nd rfl (by first | exact Or.inl rfl | exact Or.inr rfl) (pe_m0 c_E_next_slot hr (by decide) (pv 3)))
      (pss_cons (ps_if (PW.pt (pw_and (pt_cmpR op_notN (pv 7) pe_non (nomark _)) (pw_and1 (pt_cmpR op_lt (pv 7) (pv 5) (nomark _))))) (pss_one (ps_ret (pe_tup (pa_cons pe_str (pa_cons (pv 7) (pa_cons (pe_m c_E_take hr (by decide) (pv 3) (pa_cons (pv 7) pa_nil)) (pa_cons pe_int pa_nil))))))) pss_nil)
      (pss_cons (ps_set (i := 8) sc_infer_starts.nd rfl (by first | exact Or.inl rfl | exact Or.inr rfl) (pe_m c_E_take hr (by decide) (pv 3) (pa_cons (pv 5) pa_nil)))
      (pss_cons (ps_if (pt_cmpR op_gt (pv 8) (pv 6) (nomark _)) (pss_one (ps_ret (pe_tup (pa_cons pe_str (pa_cons (pv 5) (pa_cons (pv 8) (pa_cons (pv 6) pa_nil))))))) pss_nil)
      (pss_one (ps_if (pt_cmpR op_lt (pv 8) (pv 6) (nomark _)) (pss_cons (ps_expr (pe_bm PySem.F.plainAttrs_list PySem.F.slot_list_append PySem.F.type_list_append mt_append (pv 4) (pa_cons (pe_tup (pa_cons (pv 5) (pa_cons (pe_op op_sub (pv 6) (pv 8)) pa_nil))) pa_nil)))
      (pss_one (ps_expr (pe_m c_E_add hr (by decide) (pv 3) (pa_cons (pv 5) (pa_cons pe_int (pa_cons (pe_op op_sub (pv 6) (pv 8)) pa_nil))))))) pss_nil)))))))
      (pss_cons (ps_set (i := 7) sc_infer_starts.nd rfl (by first | exact Or.inl rfl | exact Or.inr rfl) (pe_m0 c_E_next_slot hr (by decide) (pv 3)))
      (pss_cons (ps_if (pt_cmpR op_notN (pv 7) pe_non (nomark _)) (pss_one (ps_ret (pe_tup (pa_cons pe_str (pa_cons (pv 7) (pa_cons (pe_m c_E_take hr (by decide) (pv 3) (pa_cons (pv 7) pa_nil)) (pa_cons pe_int pa_nil))))))) pss_nil)
      (pss_one (ps_ret (pe_tup (pa_cons pe_str (pa_cons (pv 4) pa_nil))))))))))))), ?_⟩
    refine ⟨_, rfl, q, a, b, rfl, hq, hab, fun H1 s1 => ?_⟩
    refine ⟨_, rfl, _, rfl, q, l, a, b, ps, rfl, s1 _ _ hq, hl.mono s1, hlog.good h100, fun H2 s2 => ?_⟩
    have s12 := s1.trans s2
    -- expected = Expected(rule, window)
    refine ⟨_, rfl, _, rfl, fun e dx he hdx nde => ⟨e, dx, p, q, rfl, upd_same, fun H3 d kp3 he3 hd3 hd3' => ⟨rfl, ?_⟩⟩⟩
    have s23 : Same H2 H3 := fun b u hb => kp3 b u (by rw [upd_ne (ne_of_none hb he), upd_ne (ne_of_none hb hdx)]; exact hb) (ne_of_none hb he)
    have hd2 : H2 d = none := by
      by_cases e1 : d = e
      · rw [e1, upd_same] at hd3; cases hd3
      · rw [upd_ne e1] at hd3
        by_cases e2 : d = dx
        · rw [e2, upd_same] at hd3; cases hd3
        · rw [upd_ne e2] at hd3; exact hd3
    have hE3 : ExpAt K H2 H3 e p q [] := ⟨s23, ⟨List.nodup_nil, fun w hw => absurd hw List.not_mem_nil⟩, dx, d, [], he3, hd2, hd3', .nil, List.nodup_nil⟩
    -- starts = []
    refine ⟨by show 0 ≤ sizeLine; decide, fun S hS => ?_⟩
    have hE4 := hE3.chg (o := .lst []) (.inl hS)
    have hS2 : H2 S = none := same_mem s23 hS
    have sb : Same H (upd H2 S (.lst [])) := s12.trans (same_new hS2)
    obtain ⟨ts, hlt, hts⟩ := hl.mono sb
    have hlen : (ts.map V.ref).length = ps.length := by rw [List.length_map]; exact pq_len hts
    refine ⟨_, rfl, l, rfl, ⟨ts.map V.ref, SqL.of (hE4.same _ _ hlt)⟩, for_list (K := K) (a := l) (xs := ts.map V.ref) (fun i σ' H' => ∃ (v5 v6 v7 v8 : Option V) (t : Int) (F : List (Int × Int)) (W : Pend) (Hb : Hp) (us : List Addr),
      σ' = [some (.ref p), some (.ref q), some (.ref l), some (.ref e), some (.ref S), v5, v6, v7, v8] ∧ Same H Hb ∧ Hb S = some (.lst (us.map V.ref)) ∧ Paired (fun (t : Addr) (z : Int × Int) => Hb t = some (.tup [.int z.1, .int z.2])) us F ∧
      ExpAt K Hb H' e p q W ∧ RdLog R b ss ps i t F W) ?_ ?_ ?_ ?_⟩
    · refine ⟨none, none, none, none, a, [], [], _, [], rfl, sb, upd_same, .nil, hE4, ⟨⟨.nil, fun z => ⟨fun h => absurd h List.not_mem_nil, fun h => ?_⟩⟩, .refl _, by omega, fun j z hz => ?_⟩⟩
      · have := hss _ h.1
        omega
      · have := ((hlog.mem z).mp (List.mem_of_getElem? hz)).1
        omega
    · rintro i σ' H' _ ⟨_, _, _, _, _, _, _, Hb, _, _, h2, _, _, hE, _⟩
      rw [show ts.map V.ref = ts.map V.ref from rfl]
      obtain ⟨ts2, g1, g2⟩ := hl.mono (h2.trans hE.same)
      have : H' l = some (.lst (ts.map V.ref)) := by
        obtain ⟨ts0, e1, _⟩ := hl
        have a1 := (h2.trans hE.same) _ _ e1
        have a2 := sb _ _ e1
        rw [hlt] at a2
        rw [a1, a2]
      exact SqL.of this
    · rintro i x σ' H' hx ⟨v5, v6, v7, v8, t, F, W, Hb, us, rfl, hHb, hSb, hus, hE, hrd⟩
      rw [List.getElem?_map] at hx
      obtain ⟨tt, ht, rfl⟩ := Option.map_eq_some_iff.mp hx
      obtain ⟨z, hz1, hz2⟩ := pq_get hts ht
      have hz3 : H' tt = some (.tup [.int z.1, .int z.2]) := by
        obtain ⟨ts0, e1, e2⟩ := hl
        have a2 := sb _ _ e1
        rw [hlt] at a2
        have e3 : ts = ts0 := by
          injection a2 with a2
          injection a2 with a2
          exact map_ref_inj a2
        subst e3
        obtain ⟨z', f1, f2⟩ := pq_get e2 ht
        rw [hz1] at f1
        cases f1
        exact hE.same _ _ (hHb _ _ f2)
      obtain ⟨hrd2, hsb⟩ := hrd.jump ok hlog hss hz1
      obtain ⟨hsum, hst0, hst1⟩ := hrd2.step ok hlog hss hz1 hsb hE.ok
      obtain ⟨hfl, hFl⟩ := hrd2.small hss h100
      refine ⟨tt, _, rfl, SqT.of hz3, rfl, _, _, rfl, _, _, rfl, rfl, ?_⟩
      refine ⟨_, rfl, hE.md mE_next_slot, e, p, q, W, Hb, rfl, hE, fun v hv => ?_⟩
      refine early_no (s := z.1) (v := v) rfl rfl ?_ (iteF ?_)
      · rcases hv with ⟨_, hv⟩ | ⟨m, rfl, hm⟩
        · exact .inl hv
        · obtain ⟨zz, hzz⟩ := hE.ok.key hm
          obtain ⟨_, _, _, g2, _⟩ := hrd2.hit ok hss hzz
          exact .inr ⟨m, rfl, g2⟩
      refine ⟨_, rfl, hE.md mE_take, _, rfl, e, p, q, R, a, b, W, Hb, z.1, rfl, hE, hR.mono hHb, hHb _ _ hq, hrd2.zs ok hE.ok hlim z.1, by omega, fun H5 hE5 => ?_⟩
      refine ⟨_, rfl, _, rfl, _, _, rfl, rfl, false, congrArg V.bl (decide_eq_false (by omega)), iteF ?_⟩
      refine ⟨_, rfl, _, rfl, _, _, rfl, rfl, _, rfl, ite2 (fun hc => ?_) (fun hc => ?_)⟩
      · have hlt2 : sumW W z.1 < z.2 := of_decide_eq_true hc
        have hcp : 0 < ss.count z.1 := by omega
        have hm : z.2 - sumW W z.1 = ((ss.count z.1 : Nat) : Int) := by omega
        have hS5 := hE5.same _ _ hSb
        refine ⟨_, rfl, .inl ⟨rfl, _, SqL.of hS5⟩, _, rfl, _, rfl, _, rfl, _, _, rfl, rfl, by show 2 ≤ sizeLine; decide, fun t2 ht2 => ?_⟩
        have nts : S ≠ t2 := ne_of_none hS5 ht2
        have hus5 : us.length = F.length := pq_len hus
        refine ⟨S, _, _, rfl, rfl, (by rw [upd_ne nts]; exact hS5), szLt (by rw [List.length_map]; omega), ?_⟩
        have hbt2 : Hb t2 = none := same_mem hE5.same ht2
        have hE6 := (hE5.chg (o := .tup [.int z.1, .int (z.2 - sumW W z.1)]) (.inl ht2)).chg (S := S) (o := .lst (us.map V.ref ++ [.ref t2])) (.inr ⟨(by rw [upd_ne nts, hSb]; exact fun z => by cases z), us.map V.ref, (by rw [upd_ne nts]; exact hS5)⟩)
        have hHb6 : Same H (upd (upd Hb t2 (.tup [.int z.1, .int (z.2 - sumW W z.1)])) S (.lst (us.map V.ref ++ [.ref t2]))) := same_mu (hHb.trans (same_new hbt2)) (same_mem s12 hS2)
        have hfl2 : (flat (takeW R b W z.1)).length ≤ 500 := by
          have h1 := (flat_take R b hE.ok z.1).length_eq
          have h2 : ∀ qs : List (Int × Tri), (qs.flatMap (stepT R b z.1)).length ≤ qs.length := fun qs => by
            induction qs with
            | nil => exact Nat.le_refl _
            | cons y qs ih =>
              rw [List.flatMap_cons, List.length_append, List.length_cons]
              have : (stepT R b z.1 y).length ≤ 1 := by
                unfold stepT addLS addL
                split
                · split
                  · split <;> simp
                  · simp
                · simp
              omega
          have h3 := h2 (flat W)
          omega
        refine ⟨_, rfl, hE6.md mE_add, _, rfl, _, rfl, _, rfl, _, _, rfl, rfl, e, p, q, R, a, b, _, _, z.1, 0, _, rfl, hE6, (hR.mono hHb6).mono hE6.same, hE6.same _ _ (hHb6 _ _ hq), by unfold Ru.has; simp, fun t e => by omega, hfl2, fun H7 hE7 => ?_⟩
        refine ⟨_, _, _, _, z.1 + 1, F ++ [(z.1, ((ss.count z.1 : Nat) : Int))], _, _, us ++ [t2], rfl, hHb6, ?_, ?_, hE7, ?_⟩
        · rw [upd_same, List.map_append]
          rfl
        · refine Paired.snoc (pq_mapm (fun t0 y _ h0 => ?_) hus) ?_
          · rw [upd_ne (ne_of h0 hSb (by intro z; cases z)), upd_ne (ne_of_none h0 hbt2)]
            exact h0
          · rw [upd_ne nts.symm, upd_same, hm]
        · have := hst1 hcp
          show RdLog R b ss ps (i + 1) (z.1 + 1) _ (addW R b (takeW R b W z.1) z.1 1 (z.2 - sumW W z.1))
          rw [hm]
          exact this
      · have hge : ¬ sumW W z.1 < z.2 := fun q => hc (decide_eq_true q)
        exact ⟨_, _, _, _, z.1 + 1, F, _, Hb, us, rfl, hHb, hSb, hus, hE5, hst0 (by omega)⟩
    · rintro σ' H' ⟨v5, v6, v7, v8, t, F, W, Hb, us, rfl, hHb, hSb, hus, hE, hrd⟩
      rw [hlen] at hrd
      have hno : ∀ y, a ≤ y ∧ y < b → t ≤ y → 0 < cnt R ss y → False := fun y h1 h2 h3 => by
        obtain ⟨j, z, g1, g2, _⟩ := hrd.next ok hlog hss h1 h2 h3
        have := (List.getElem?_eq_some_iff.mp g2).1
        omega
      refine ⟨_, rfl, hE.md mE_next_slot, e, p, q, W, Hb, rfl, hE, fun v hv => ?_⟩
      have hv0 : v = .non := by
        rcases hv with ⟨_, hv⟩ | ⟨m, rfl, hm⟩
        · exact hv
        · obtain ⟨zz, hzz⟩ := hE.ok.key hm
          obtain ⟨_, _, _, g2, g3, g4, g5⟩ := hrd.hit ok hss hzz
          exact (hno m ⟨g5, g3⟩ g2 g4).elim
      subst hv0
      refine ⟨_, rfl, rfl, false, rfl, iteF ?_⟩
      have hS5 := hE.same _ _ hSb
      refine ⟨_, rfl, by show 2 ≤ sizeLine; decide, fun t2 ht2 => ?_⟩
      have s9 := (hHb.trans hE.same).trans (same_new (o := .tup [.str "starts", .ref S]) ht2)
      refine k t2 S F _ s9 upd_same (PairsAt.mono (same_new ht2) ⟨us, hS5, pq_mapm (fun t0 y _ h0 => hE.same _ _ h0) hus⟩) ⟨hrd.fnd.asc, fun z => ?_⟩
      rw [hrd.fnd.mem z]
      constructor
      · rintro ⟨h1, _, h3⟩
        exact ⟨h1, h3⟩
      · rintro ⟨h1, h3⟩
        refine ⟨h1, ?_, h3⟩
        rcases Int.lt_or_le z.1 t with g | g
        · exact g
        · exact (hno _ (hss _ h1) g (cnt_self ok h1)).elim
end
end My
set_option Elab.async false
set_option linter.all false
set_option maxRecDepth 100000
set_option maxHeartbeats 4000000
namespace My
open PySem PySem.Spec PyProof.Rows L2
section
variable {P : Program} {w : World} {K : PySem.W.Frag} {mg : Str → Option Value} {base : Heap}
/-! ### a scene -/
structure Sc where
  R : Ru
  ss : List Int
  oa : Int
  ob : Int
  len : Int
structure Sc.Ok (S : Sc) : Prop where
  rok : S.R.Ok
  n1 : 1 ≤ S.ss.length
  n6 : S.ss.length ≤ 6
  st : ∀ x ∈ S.ss, S.oa ≤ x ∧ x ≤ S.oa + 19 ∧ x < S.ob
  w60 : S.oa < S.ob ∧ S.ob ≤ S.oa + 60
  l4 : 1 ≤ S.len ∧ S.len ≤ 4
def Sc.at (S : Sc) (c : Nat) : Int := S.ss.getD c 0
/-- the outage at a slot -/
def Sc.out (S : Sc) (t : Int) : Bool := decide (S.oa ≤ t ∧ t < S.ob)
/-- the attempts listed for each client: up to where the repeats begin -/
def Sc.lst (S : Sc) (m c : Nat) : List Int := (List.range (S.R.n - m + 1)).map fun k => S.at c + S.R.off k
/-- the moments at which something changes -/
structure IsMom (S : Sc) (ns : List Int) : Prop where
  asc : ns.Pairwise (· ≤ ·)
  mem : ∀ y, y ∈ ns ↔ y ∈ S.ss ∨ y = S.oa ∨ y = S.ob ∨ ∃ m, S.R.t = .rep m ∧ ∃ c, c < S.ss.length ∧ y ∈ S.lst m c
  len : ns.length ≤ 40
theorem Sc.at_mem (S : Sc) {c : Nat} (h : c < S.ss.length) : S.at c ∈ S.ss := by
  unfold Sc.at
  rw [List.getD_eq_getElem?_getD, List.getElem?_eq_getElem h]
  exact List.getElem_mem h
def sfs (p l w : Addr) (len : Int) : List (Str × V) := putF "its_length" (.int len) (putF "windows" (.ref w) (putF "its_starts" (.ref l) (putF "its_rule" (.ref p) [])))
theorem sfs_rule (p l w : Addr) (n : Int) : (sfs p l w n).lookup ("its_rule" : Str) = some (.ref p) := by kernel_rfl
theorem sfs_starts (p l w : Addr) (n : Int) : (sfs p l w n).lookup ("its_starts" : Str) = some (.ref l) := by kernel_rfl
theorem sfs_windows (p l w : Addr) (n : Int) : (sfs p l w n).lookup ("windows" : Str) = some (.ref w) := by kernel_rfl
theorem sfs_length (p l w : Addr) (n : Int) : (sfs p l w n).lookup ("its_length" : Str) = some (.int n) := by kernel_rfl
theorem mS_rule (p l w : Addr) (n : Int) : (sfs p l w n).lookup ("rule" : Str) = none := by kernel_rfl
theorem mS_starts (p l w : Addr) (n : Int) : (sfs p l w n).lookup ("starts" : Str) = none := by kernel_rfl
theorem mS_outages (p l w : Addr) (n : Int) : (sfs p l w n).lookup ("outages" : Str) = none := by kernel_rfl
theorem mS_length (p l w : Addr) (n : Int) : (sfs p l w n).lookup ("length" : Str) = none := by kernel_rfl
theorem mS_check_client (p l w : Addr) (n : Int) : (sfs p l w n).lookup ("check_client" : Str) = none := by kernel_rfl
theorem mS_attempt_in (p l w : Addr) (n : Int) : (sfs p l w n).lookup ("attempt_in" : Str) = none := by kernel_rfl
theorem mS_outage_at (p l w : Addr) (n : Int) : (sfs p l w n).lookup ("outage_at" : Str) = none := by kernel_rfl
theorem mS_listed_slots (p l w : Addr) (n : Int) : (sfs p l w n).lookup ("listed_slots" : Str) = none := by kernel_rfl
theorem mS_moments (p l w : Addr) (n : Int) : (sfs p l w n).lookup ("moments" : Str) = none := by kernel_rfl
structure SceneAt (K : PySem.W.Frag) (H : Hp) (s p : Addr) (S : Sc) : Prop where
  rule : RuleAt K H p S.R
  ex : ∃ dx l w q, H s = some (.ins (cS K) dx (sfs p l w S.len)) ∧ H l = some (.lst (S.ss.map V.int)) ∧ H w = some (.lst [.ref q]) ∧ H q = some (.tup [.int S.oa, .int S.ob])
theorem SceneAt.mono {H H' : Hp} {s p : Addr} {S : Sc} (e : Same H H') (h : SceneAt K H s p S) : SceneAt K H' s p S := by
  obtain ⟨dx, l, w, q, h1, h2, h3, h4⟩ := h.ex
  exact ⟨h.rule.mono e, dx, l, w, q, e _ _ h1, e _ _ h2, e _ _ h3, e _ _ h4⟩
theorem SceneAt.open {H : Hp} {s p : Addr} {S : Sc} (T : Txt K mg) (h : SceneAt K H s p S) : ∃ l w q, Fd K H (.ref s) "its_rule" (.ref p) ∧ Fd K H (.ref s) "its_starts" (.ref l) ∧ Fd K H (.ref s) "windows" (.ref w) ∧ Fd K H (.ref s) "its_length" (.int S.len) ∧
    H l = some (.lst (S.ss.map V.int)) ∧ H w = some (.lst [.ref q]) ∧ H q = some (.tup [.int S.oa, .int S.ob]) := by
  obtain ⟨dx, l, w, q, h1, h2, h3, h4⟩ := h.ex
  exact ⟨l, w, q, ⟨s, _, dx, _, rfl, h1, T.clS, T.nS_its_rule, sfs_rule p l w _⟩, ⟨s, _, dx, _, rfl, h1, T.clS, T.nS_its_starts, sfs_starts p l w _⟩, ⟨s, _, dx, _, rfl, h1, T.clS, T.nS_windows, sfs_windows p l w _⟩, ⟨s, _, dx, _, rfl, h1, T.clS, T.nS_its_length, sfs_length p l w _⟩, h2, h3, h4⟩
theorem SceneAt.md {H : Hp} {s p : Addr} {S : Sc} {m : Str} (h : SceneAt K H s p S) (hm : ∀ p l w n, (sfs p l w n).lookup m = none) : Md H (.ref s) (cS K) m := by
  obtain ⟨dx, l, w, q, h1, _⟩ := h.ex
  exact ⟨s, dx, _, rfl, h1, hm p l w _⟩
theorem ss_at {S : Sc} {c : Nat} (h : c < S.ss.length) : (S.ss.map V.int)[c]? = some (.int (S.at c)) := by
  unfold Sc.at
  rw [List.getElem?_map, List.getD_eq_getElem?_getD, List.getElem?_eq_getElem h]
  rfl
def sp_Scene_init (K : PySem.W.Frag) : Sp := fun vs H Q _ => ∃ (s dx p l0 w0 q : Addr) (S : Sc), vs = [.ref s, .ref p, .ref l0, .ref w0, .int S.len] ∧ H s = some (.ins (cS K) dx []) ∧ RuleAt K H p S.R ∧ H l0 = some (.lst (S.ss.map V.int)) ∧ 1 ≤ S.ss.length ∧ S.ss.length ≤ 40 ∧
  H w0 = some (.lst [.ref q]) ∧ H q = some (.tup [.int S.oa, .int S.ob]) ∧ S.oa < S.ob ∧ 1 ≤ S.len ∧ ∀ H', (∀ b o, H b = some o → b ≠ s → H' b = some o) → SceneAt K H' s p S → Q .non H'
theorem sc_Scene_init : FnScope ["self", "rule", "starts", "outages", "length", "windows"] ["self", "rule", "starts", "outages", "length"] (defScope s_Scene_init) := ⟨rfl, rfl, rfl, by decide +kernel, rfl, by decide +kernel, by decide +kernel⟩
theorem ok_Scene_init {f : Addr} {fd : FuncData} (F : FunD K "__init__" "Scene.__init__" (defArgs s_Scene_init) (defBody s_Scene_init) (defScope s_Scene_init) [] [("outages", .non), ("length", .int 1)] f fd) (T : Txt K mg) (c_check_outages : C8.Cal P w K mg base 3 "check_outages" (sp_check_outages K) []) (c_check_starts_scenes : C8.Cal P w K mg base 2 "check_starts_scenes" (sp_check_starts_scenes K) []) (c_is_integer : C8.Cal P w K mg base 1 "is_integer" (sp_is_integer K) []) :
    FnOk P w K mg base CX0 4 f fd ["self", "rule", "starts", "outages", "length"] (lockSp 5 (sp_Scene_init K)) := by
  refine F.ok sc_Scene_init (fun vs H Q E h => ?_) (fun cdv A outer s H vs Q E hr h => ?_)
  · exact h.1
  · have hu := hu_of hr
    obtain ⟨_, d0, xs0, hd0, h⟩ := h
    refine ⟨_, PSs.nox (pss_lock (pss_cons (ps_if (pt_not (pt_val (pe_callB (C8.call_isC T.iR) (by rfl) T.f_isinstance (by decide +kernel) (pa_cons (pv 1) (pa_cons (pe_glob (v := .ref (cR K)) rfl T.gR rfl) pa_nil))))) (pss_one ps_never) pss_nil)
      (pss_cons (ps_expr (C8.pe_c c_check_starts_scenes hr (by decide) (by rfl) (pa_cons (pv 2) pa_nil)))
      (pss_cons (ps_set (i := 5) sc_Scene_init.nd rfl (by first | exact Or.inl rfl | exact Or.inr rfl) (pe_ifExp (pt_cmpR op_isN (pv 3) pe_non (nomark _)) (pe_lst pa_nil) (pv 3)))
      (pss_cons (ps_expr (C8.pe_c c_check_outages hr (by decide) (by rfl) (pa_cons (pv 5) pa_nil)))
      (pss_cons (ps_if (PW.pt (pw_or (pt_not (pt_val (C8.pe_c c_is_integer hr (by decide) (by rfl) (pa_cons (pv 4) pa_nil)))) (pw_or1 (pt_cmpR op_lt (pv 4) pe_int (nomark _))))) (pss_one ps_never) pss_nil)
      (pss_cons (ps_fld (pv 0) (pv 1) rfl)
      (pss_cons (ps_fld (pv 0) (pe_callTy call_list_of (by rfl) T.f_list (by decide +kernel) (pa_cons (pv 2) pa_nil)) rfl)
      (pss_cons (ps_fld (pv 0) (pe_callTy call_list_of (by rfl) T.f_list (by decide +kernel) (pa_cons (pv 5) pa_nil)) rfl)
      (pss_one (ps_fld (pv 0) (pv 4) rfl))))))))))), ⟨d0, _, hd0, trivial, fun od => ?_⟩⟩
    have h := h od
    generalize upd H d0 (.frz od (.lst xs0)) = H at h ⊢
    obtain ⟨s, dx, p, l0, w0, q, S, rfl, hs, hR, hl, h1, h40, hw, hq, hab, hlen, k⟩ := h
    obtain ⟨rdx, rl, rt, rs, r1, r2, r3, r4⟩ := hR.ex
    refine ⟨_, rfl, p, _, _, rfl, r1, true, rfl, iteF ?_⟩
    refine ⟨_, rfl, l0, S.ss, rfl, hl, h1, h40, fun H1 s1 => ?_⟩
    refine ⟨_, rfl, rfl, false, rfl, iteF ⟨_, rfl, ?_⟩⟩
    refine ⟨_, rfl, w0, q, S.oa, S.ob, rfl, s1 _ _ hw, s1 _ _ hq, hab, fun H2 s2 => ?_⟩
    have s12 := s1.trans s2
    refine ⟨_, rfl, S.len, rfl, true, rfl, iteF ?_⟩
    refine ⟨_, rfl, _, _, rfl, rfl, false, congrArg V.bl (decide_eq_false (by omega)), iteF ?_⟩
    refine ⟨_, rfl, _, rfl, s, _, dx, [], rfl, s12 _ _ hs, T.clS, T.nS_its_rule, (by show 0 < 1000; decide), ?_⟩
    have nls : l0 ≠ s := ne_of hl hs (by intro z; cases z)
    have nws : w0 ≠ s := ne_of hw hs (by intro z; cases z)
    refine ⟨_, rfl, l0, _, rfl, .inl (SqL.of (by rw [upd_ne nls]; exact s12 _ _ hl)), fun l hl1 => ?_⟩
    have hl2 : H2 l = none ∧ l ≠ s := by
      by_cases e1 : l = s
      · rw [e1, upd_same] at hl1; cases hl1
      · rw [upd_ne e1] at hl1; exact ⟨hl1, e1⟩
    obtain ⟨hl20, nl⟩ := hl2
    refine ⟨_, rfl, s, _, dx, _, rfl, (by rw [upd_ne nl.symm]; exact upd_same), T.clS, T.nS_its_starts, (by show 1 < 1000; decide), ?_⟩
    refine ⟨_, rfl, w0, _, rfl, .inl (SqL.of (by rw [upd_ne nws, upd_ne (ne_of_none (s12 _ _ hw) hl20), upd_ne nws]; exact s12 _ _ hw)), fun w hw1 => ?_⟩
    have hw2 : H2 w = none ∧ w ≠ s ∧ w ≠ l := by
      by_cases e1 : w = s
      · rw [e1, upd_same] at hw1; cases hw1
      · rw [upd_ne e1] at hw1
        by_cases e2 : w = l
        · rw [e2, upd_same] at hw1; cases hw1
        · rw [upd_ne e2, upd_ne e1] at hw1; exact ⟨hw1, e1, e2⟩
    obtain ⟨hw20, nw, nwl⟩ := hw2
    refine ⟨_, rfl, s, _, dx, _, rfl, (by rw [upd_ne nw.symm]; exact upd_same), T.clS, T.nS_windows, (by show 2 < 1000; decide), ?_⟩
    refine ⟨_, rfl, _, rfl, s, _, dx, _, rfl, upd_same, T.clS, T.nS_its_length, (by show 3 < 1000; decide), ?_⟩
    have keep : ∀ b o, H b = some o → b ≠ s → _ = some o := fun b o hb nb => by
      have hb2 := s12 _ _ hb
      have g : upd (upd (upd (upd (upd (upd H2 s (.ins (cS K) dx (putF "its_rule" (.ref p) []))) l (.lst (S.ss.map V.int))) s (.ins (cS K) dx (putF "its_starts" (.ref l) (putF "its_rule" (.ref p) [])))) w (.lst [.ref q])) s (.ins (cS K) dx (putF "windows" (.ref w) (putF "its_starts" (.ref l) (putF "its_rule" (.ref p) []))))) s (.ins (cS K) dx (sfs p l w S.len)) b = some o := by
        rw [upd_ne nb, upd_ne nb, upd_ne (ne_of_none hb2 hw20), upd_ne nb, upd_ne (ne_of_none hb2 hl20), upd_ne nb]
        exact hb2
      exact g
    have np : p ≠ s := fun e => by rw [e, hs] at r1; injection r1 with r1; injection r1 with e1 e2 e3; cases e3
    have nrl : ∀ {b xs}, H b = some (.lst xs) → b ≠ s := fun hb => ne_of hb hs (by intro z; cases z)
    have nrt : ∀ {b xs}, H b = some (.tup xs) → b ≠ s := fun hb => ne_of hb hs (by intro z; cases z)
    refine k _ keep ⟨⟨hR.ok, rdx, rl, rt, rs, keep _ _ r1 np, keep _ _ r2 (nrl r2), keep _ _ r3 (nrt r3), keep _ _ r4 (nrl r4)⟩, dx, l, w, q, upd_same, ?_, ?_, keep _ _ hq (nrt hq)⟩
    · rw [upd_ne nl, upd_ne nl, upd_ne nwl.symm, upd_ne nl, upd_same]
    · rw [upd_ne nw, upd_ne nw, upd_same]
def sp_Scene_rule (K : PySem.W.Frag) : Sp := fun vs H Q _ => ∃ (s p : Addr) (S : Sc), vs = [.ref s] ∧ SceneAt K H s p S ∧ Q (.ref p) H
theorem sc_Scene_rule : FnScope ["self"] ["self"] (defScope s_Scene_rule) := ⟨rfl, rfl, rfl, by decide +kernel, rfl, by decide +kernel, by decide +kernel⟩
theorem ok_Scene_rule {f : Addr} {fd : FuncData} (F : FunD K "rule" "Scene.rule" (defArgs s_Scene_rule) (defBody s_Scene_rule) (defScope s_Scene_rule) [] [] f fd) (T : Txt K mg)  :
    FnOk P w K mg base CX0 1 f fd ["self"] (sp_Scene_rule K) := by
  refine F.ok sc_Scene_rule (fun vs H Q E h => ?_) (fun cdv A outer s H vs Q E hr h => ?_)
  · obtain ⟨_, _, _, rfl, _⟩ := h
    rfl
  · have hu := hu_of hr
    obtain ⟨s, p, S, rfl, hS, k⟩ := h
    obtain ⟨l, w, q, f1, f2, f3, f4, h2, h3, h4⟩ := hS.open T
    refine ⟨_, PSs.nox ((pss_one (ps_ret (pe_f (pv 0))))), ?_⟩
    exact ⟨_, rfl, _, f1, k⟩
def sp_Scene_starts (K : PySem.W.Frag) : Sp := fun vs H Q _ => ∃ (s p : Addr) (S : Sc), vs = [.ref s] ∧ SceneAt K H s p S ∧ ∀ l, H l = none → Q (.ref l) (upd H l (.lst (S.ss.map V.int)))
theorem sc_Scene_starts : FnScope ["self"] ["self"] (defScope s_Scene_starts) := ⟨rfl, rfl, rfl, by decide +kernel, rfl, by decide +kernel, by decide +kernel⟩
theorem ok_Scene_starts {f : Addr} {fd : FuncData} (F : FunD K "starts" "Scene.starts" (defArgs s_Scene_starts) (defBody s_Scene_starts) (defScope s_Scene_starts) [] [] f fd) (T : Txt K mg)  :
    FnOk P w K mg base CX0 1 f fd ["self"] (sp_Scene_starts K) := by
  refine F.ok sc_Scene_starts (fun vs H Q E h => ?_) (fun cdv A outer s H vs Q E hr h => ?_)
  · obtain ⟨_, _, _, rfl, _⟩ := h
    rfl
  · have hu := hu_of hr
    obtain ⟨s, p, S, rfl, hS, k⟩ := h
    obtain ⟨l, w, q, f1, f2, f3, f4, h2, h3, h4⟩ := hS.open T
    refine ⟨_, PSs.nox ((pss_one (ps_ret (pe_callTy call_list_of (by rfl) T.f_list (by decide +kernel) (pa_cons (pe_f (pv 0)) pa_nil))))), ?_⟩
    exact ⟨_, rfl, _, f2, l, _, rfl, .inl (SqL.of h2), k⟩
def sp_Scene_outages (K : PySem.W.Frag) : Sp := fun vs H Q _ => ∃ (s p : Addr) (S : Sc), vs = [.ref s] ∧ SceneAt K H s p S ∧ ∀ l q, H l = none → H q = some (.tup [.int S.oa, .int S.ob]) → Q (.ref l) (upd H l (.lst [.ref q]))
theorem sc_Scene_outages : FnScope ["self"] ["self"] (defScope s_Scene_outages) := ⟨rfl, rfl, rfl, by decide +kernel, rfl, by decide +kernel, by decide +kernel⟩
theorem ok_Scene_outages {f : Addr} {fd : FuncData} (F : FunD K "outages" "Scene.outages" (defArgs s_Scene_outages) (defBody s_Scene_outages) (defScope s_Scene_outages) [] [] f fd) (T : Txt K mg)  :
    FnOk P w K mg base CX0 1 f fd ["self"] (sp_Scene_outages K) := by
  refine F.ok sc_Scene_outages (fun vs H Q E h => ?_) (fun cdv A outer s H vs Q E hr h => ?_)
  · obtain ⟨_, _, _, rfl, _⟩ := h
    rfl
  · have hu := hu_of hr
    obtain ⟨s, p, S, rfl, hS, k⟩ := h
    obtain ⟨l, w, q, f1, f2, f3, f4, h2, h3, h4⟩ := hS.open T
    refine ⟨_, PSs.nox ((pss_one (ps_ret (pe_callTy call_list_of (by rfl) T.f_list (by decide +kernel) (pa_cons (pe_f (pv 0)) pa_nil))))), ?_⟩
    exact ⟨_, rfl, _, f3, w, _, rfl, .inl (SqL.of h3), fun l2 hl2 => k l2 q hl2 h4⟩
def sp_Scene_length (K : PySem.W.Frag) : Sp := fun vs H Q _ => ∃ (s p : Addr) (S : Sc), vs = [.ref s] ∧ SceneAt K H s p S ∧ Q (.int S.len) H
theorem sc_Scene_length : FnScope ["self"] ["self"] (defScope s_Scene_length) := ⟨rfl, rfl, rfl, by decide +kernel, rfl, by decide +kernel, by decide +kernel⟩
theorem ok_Scene_length {f : Addr} {fd : FuncData} (F : FunD K "length" "Scene.length" (defArgs s_Scene_length) (defBody s_Scene_length) (defScope s_Scene_length) [] [] f fd) (T : Txt K mg)  :
    FnOk P w K mg base CX0 1 f fd ["self"] (sp_Scene_length K) := by
  refine F.ok sc_Scene_length (fun vs H Q E h => ?_) (fun cdv A outer s H vs Q E hr h => ?_)
  · obtain ⟨_, _, _, rfl, _⟩ := h
    rfl
  · have hu := hu_of hr
    obtain ⟨s, p, S, rfl, hS, k⟩ := h
    obtain ⟨l, w, q, f1, f2, f3, f4, h2, h3, h4⟩ := hS.open T
    refine ⟨_, PSs.nox ((pss_one (ps_ret (pe_f (pv 0))))), ?_⟩
    exact ⟨_, rfl, _, f4, k⟩
def sp_Scene_check_client (K : PySem.W.Frag) : Sp := fun vs H Q _ => ∃ (s p : Addr) (S : Sc) (c : Nat), vs = [.ref s, .int c] ∧ SceneAt K H s p S ∧ c < S.ss.length ∧ Q .non H
theorem sc_Scene_check_client : FnScope ["self", "client"] ["self", "client"] (defScope s_Scene_check_client) := ⟨rfl, rfl, rfl, by decide +kernel, rfl, by decide +kernel, by decide +kernel⟩
theorem ok_Scene_check_client {f : Addr} {fd : FuncData} (F : FunD K "check_client" "Scene.check_client" (defArgs s_Scene_check_client) (defBody s_Scene_check_client) (defScope s_Scene_check_client) [] [] f fd) (T : Txt K mg) (c_is_between : C8.Cal P w K mg base 2 "is_between" (sp_is_between K) []) :
    FnOk P w K mg base CX0 3 f fd ["self", "client"] (sp_Scene_check_client K) := by
  refine F.ok sc_Scene_check_client (fun vs H Q E h => ?_) (fun cdv A outer s H vs Q E hr h => ?_)
  · obtain ⟨_, _, _, _, rfl, _⟩ := h
    rfl
  · have hu := hu_of hr
    obtain ⟨s, p, S, c, rfl, hS, hc, k⟩ := h
    obtain ⟨l, w, q, f1, f2, f3, f4, h2, h3, h4⟩ := hS.open T
    refine ⟨_, PSs.nox ((pss_one (ps_if (pt_not (pt_val (C8.pe_c c_is_between hr (by decide) (by rfl) (pa_cons (pv 1) (pa_cons pe_int (pa_cons (pe_op op_sub (pe_callB call_len_seq (by rfl) T.f_len (by decide +kernel) (pa_cons (pe_f (pv 0)) pa_nil)) pe_int) pa_nil)))))) (pss_one ps_never) pss_nil))), ?_⟩
    have hlen : (S.ss.map V.int).length = S.ss.length := List.length_map ..
    refine ⟨_, rfl, _, rfl, _, f2, l, _, rfl, .inl (SqL.of h2), _, _, rfl, rfl, (c : Int), _, _, rfl, ?_⟩
    rw [decide_eq_true (show (0 : Int) ≤ c by omega), decide_eq_true (by omega)]
    exact ⟨true, rfl, iteF k⟩
def sp_Scene_attempt_in (K : PySem.W.Frag) : Sp := fun vs H Q _ => ∃ (s p : Addr) (S : Sc) (c : Nat) (t : Int), vs = [.ref s, .int c, .int t] ∧ SceneAt K H s p S ∧ c < S.ss.length ∧ (∀ b, S.R.t = .tim b → t - S.at c ≤ 2 ^ 40) ∧ ∀ H', Same H H' → Q (optV (S.R.at (t - S.at c))) H'
theorem sc_Scene_attempt_in : FnScope ["self", "client", "slot"] ["self", "client", "slot"] (defScope s_Scene_attempt_in) := ⟨rfl, rfl, rfl, by decide +kernel, rfl, by decide +kernel, by decide +kernel⟩
theorem ok_Scene_attempt_in {f : Addr} {fd : FuncData} (F : FunD K "attempt_in" "Scene.attempt_in" (defArgs s_Scene_attempt_in) (defBody s_Scene_attempt_in) (defScope s_Scene_attempt_in) [] [] f fd) (T : Txt K mg) (c_R_attempt_at : C8.Met P w K mg base 4 (cR K) "attempt_at" (sp_Rule_attempt_at K) []) (c_S_check_client : C8.Met P w K mg base 3 (cS K) "check_client" (sp_Scene_check_client K) []) (c_is_integer : C8.Cal P w K mg base 1 "is_integer" (sp_is_integer K) []) :
    FnOk P w K mg base CX0 5 f fd ["self", "client", "slot"] (sp_Scene_attempt_in K) := by
  refine F.ok sc_Scene_attempt_in (fun vs H Q E h => ?_) (fun cdv A outer s H vs Q E hr h => ?_)
  · obtain ⟨_, _, _, _, _, rfl, _⟩ := h
    rfl
  · have hu := hu_of hr
    obtain ⟨s, p, S, c, t, rfl, hS, hc, hlim, k⟩ := h
    obtain ⟨l, w, q, f1, f2, f3, f4, h2, h3, h4⟩ := hS.open T
    refine ⟨_, PSs.nox ((pss_cons (ps_expr (pe_m c_S_check_client hr (by decide) (pv 0) (pa_cons (pv 1) pa_nil)))
      (pss_cons (ps_if (pt_not (pt_val (C8.pe_c c_is_integer hr (by decide) (by rfl) (pa_cons (pv 2) pa_nil)))) (pss_one ps_never) pss_nil)
      (pss_one (ps_ret (pe_m c_R_attempt_at hr (by decide) (pe_f (pv 0)) (pa_cons (pe_op op_sub (pv 2) (pe_ix ix_list (pe_f (pv 0)) (pv 1) (fun _ _ => rfl))) pa_nil))))))), ?_⟩
    refine ⟨_, rfl, hS.md mS_check_client, _, rfl, s, p, S, c, rfl, hS, hc, ?_⟩
    refine ⟨_, rfl, t, rfl, true, rfl, iteF ?_⟩
    exact ⟨_, rfl, _, f1, hS.rule.md mR_attempt_at, _, rfl, _, rfl, _, f2, _, rfl, l, _, _, _, rfl, rfl, SqL.of h2, atI_nat (ss_at hc), _, _, rfl, rfl, p, S.R, _, rfl, hS.rule, hlim, k⟩
def Sc.outV (S : Sc) (t : Int) : V := if S.out t = true then .int 0 else .non
def sp_Scene_outage_at (K : PySem.W.Frag) : Sp := fun vs H Q _ => ∃ (s p : Addr) (S : Sc) (t : Int), vs = [.ref s, .int t] ∧ SceneAt K H s p S ∧ ∀ H', Same H H' → Q (S.outV t) H'
theorem sc_Scene_outage_at : FnScope ["self", "slot", "at", "outage"] ["self", "slot"] (defScope s_Scene_outage_at) := ⟨rfl, rfl, rfl, by decide +kernel, rfl, by decide +kernel, by decide +kernel⟩
theorem ok_Scene_outage_at {f : Addr} {fd : FuncData} (F : FunD K "outage_at" "Scene.outage_at" (defArgs s_Scene_outage_at) (defBody s_Scene_outage_at) (defScope s_Scene_outage_at) [] [] f fd) (T : Txt K mg) (c_is_integer : C8.Cal P w K mg base 1 "is_integer" (sp_is_integer K) []) :
    FnOk P w K mg base CX0 2 f fd ["self", "slot"] (sp_Scene_outage_at K) := by
  refine F.ok sc_Scene_outage_at (fun vs H Q E h => ?_) (fun cdv A outer s H vs Q E hr h => ?_)
  · obtain ⟨_, _, _, _, rfl, _⟩ := h
    rfl
  · have hu := hu_of hr
    obtain ⟨s, p, S, t, rfl, hS, k⟩ := h
    obtain ⟨l, w, q, f1, f2, f3, f4, h2, h3, h4⟩ := hS.open T
    refine ⟨_, PSs.nox ((pss_cons (ps_if (pt_not (pt_val (C8.pe_c c_is_integer hr (by decide) (by rfl) (pa_cons (pv 1) pa_nil)))) (pss_one ps_never) pss_nil)
      (pss_one (ps_ret (pe_ix ix_list (pe_op op_cat (pe_lc (own := [("at", 2), ("outage", 3)]) (g := (gTup K 2 (gCons (gName 2) (gCons (gName 3) gNil)))) rfl sc_Scene_outage_at.nd (pi_enum (by rfl) T.f_enumerate (pa_cons (pe_f (pv 0)) pa_nil)) (blkOk_by (own := [("at", 2), ("outage", 3)]) (N := ["self", "slot", "at", "outage"]) (sc := defScope s_Scene_outage_at) (by decide +kernel)) (fun _ _ _ _ _ => (pg_tup rfl (pgs_cons (pg_name (i := 2) sc_Scene_outage_at.nd rfl (by first | exact Or.inl rfl | exact Or.inr rfl)) (pgs_cons (pg_name (i := 3) sc_Scene_outage_at.nd rfl (by first | exact Or.inl rfl | exact Or.inr rfl)) pgs_nil)))) (fun _ _ _ _ _ => (pts_one (pt_chain op_le op_lt (pe_ix (ix_tupK (K := K) rfl) (pv 3) pe_int (fun _ _ => rfl)) (pv 1) (pe_ix (ix_tupK (K := K) rfl) (pv 3) pe_int (fun _ _ => rfl))))) (fun _ _ _ _ _ => (pv 2))) (pe_lst (pa_cons pe_non pa_nil))) pe_int (fun _ _ => rfl)))))), ?_⟩
    refine ⟨_, rfl, t, rfl, true, rfl, iteF ?_⟩
    refine ⟨_, rfl, _, f3, w, _, rfl, SqL.of h3, fun D hD => lc_pure (walk_enum (K := K) (a := w) (xs := [V.ref q])) (fun _ => S.out t) (fun _ y _ => y = .int 0) (fun _ _ _ _ _ h => h) hD (by show 1 < 100000; decide) (fun H1 e => e.seq (SqL.of h3)) ?_ ?_⟩
    · rintro i x H1 H2 Ky Kn hi s1 ⟨Ta, x1, y1, rfl, hT, rfl, hx1, hy1⟩ hy hn
      have hi0 : i = 0 := by
        have : i < 1 := hi
        omega
      subst hi0
      have ex1 : x1 = .int (0 : Nat) := (Option.some.inj hx1).symm
      have ey1 : y1 = .ref q := (Option.some.inj hy1).symm
      subst ex1 ey1
      have s2 : Same H1 (upd H1 Ta (.tup [V.int (0 : Nat), V.ref q])) := same_new hT
      have hq2 := s2 _ _ (s1 _ _ h4)
      refine ⟨Ta, _, rfl, SqT.of upd_same, rfl, _, _, rfl, _, _, rfl, rfl, rfl, ?_⟩
      refine ⟨_, rfl, q, _, _, _, rfl, rfl, SqT.of hq2, rfl, _, rfl, _, _, rfl, rfl, _, rfl, ?_⟩
      have hout : S.out t = true ↔ S.oa ≤ t ∧ t < S.ob := by unfold Sc.out; exact decide_eq_true_iff
      refine ite2 (fun hc => ?_) (fun hc => ?_)
      · have hc1 := of_decide_eq_true hc
        refine ⟨_, rfl, q, _, _, _, rfl, rfl, SqT.of hq2, rfl, _, _, rfl, rfl, _, rfl, ?_⟩
        refine ite2 (fun hc2 => ?_) (fun hc2 => ?_)
        · exact ⟨_, rfl, hy (hout.mpr ⟨hc1, of_decide_eq_true hc2⟩) _ _ rfl s2⟩
        · refine hn ?_ _ s2
          cases e : S.out t with
          | false => rfl
          | true => exact absurd (decide_eq_true (hout.mp e).2) hc2
      · refine ⟨false, rfl, hn ?_ _ s2⟩
        cases e : S.out t with
        | false => rfl
        | true => exact absurd (decide_eq_true (hout.mp e).1) hc
    · intro H1 acc s1 hD1 hm
      have hacc := Made.fn (H := H1) (f := fun _ => V.int 0) hm
      have hl1 : [V.ref q].length = 1 := rfl
      refine ⟨by show 1 ≤ sizeLine; decide, fun l2 hl2 => ?_⟩
      have hne : D ≠ l2 := ne_of_none hD1 hl2
      have hlen : acc.length ≤ 1 := by
        rw [hacc, List.length_map]
        exact Nat.le_trans (List.length_filter_le _ _) (by simp)
      refine ⟨D, l2, acc, _, rfl, rfl, (by rw [upd_ne hne]; exact hD1), upd_same, (by show acc.length + 1 ≤ sizeLine; exact szL (by omega)), fun r hr => ?_⟩
      refine ⟨r, _, _, S.outV t, rfl, rfl, SqL.of upd_same, ?_, ?_⟩
      · have e0 : (List.range [V.ref q].length).filter (fun _ => S.out t) = if S.out t = true then [0] else [] := by
          show (List.range 1).filter _ = _
          cases S.out t <;> rfl
        rw [e0] at hacc
        rw [hacc]
        unfold Sc.outV
        cases S.out t <;> rfl
      · exact k _ (s1.trans ((same_new hl2).trans (same_new hr)))
end
end My
set_option Elab.async false
set_option linter.all false
set_option maxRecDepth 100000
set_option maxHeartbeats 4000000
namespace My
open PySem PySem.Spec PyProof.Rows L2
section
variable {P : Program} {w : World} {K : PySem.W.Frag} {mg : Str → Option Value} {base : Heap}
def sp_Scene_listed_slots (K : PySem.W.Frag) : Sp := fun vs H Q _ => ∃ (s p : Addr) (S : Sc) (c m : Nat), vs = [.ref s, .int c] ∧ SceneAt K H s p S ∧ c < S.ss.length ∧ S.R.t = .rep m ∧ ∀ l H', Same H H' → H' l = some (.lst ((S.lst m c).map V.int)) → Q (.ref l) H'
theorem sc_Scene_listed_slots : FnScope ["self", "client", "count", "attempt"] ["self", "client"] (defScope s_Scene_listed_slots) := ⟨rfl, rfl, rfl, by decide +kernel, rfl, by decide +kernel, by decide +kernel⟩
theorem ok_Scene_listed_slots {f : Addr} {fd : FuncData} (F : FunD K "listed_slots" "Scene.listed_slots" (defArgs s_Scene_listed_slots) (defBody s_Scene_listed_slots) (defScope s_Scene_listed_slots) [] [] f fd) (T : Txt K mg) (c_R_gaps : C8.Met P w K mg base 1 (cR K) "gaps" (sp_Rule_gaps K) []) (c_R_offset_of : C8.Met P w K mg base 2 (cR K) "offset_of" (sp_Rule_offset_of K) []) (c_R_tail : C8.Met P w K mg base 1 (cR K) "tail" (sp_Rule_tail K) []) :
    FnOk P w K mg base CX0 3 f fd ["self", "client"] (sp_Scene_listed_slots K) := by
  refine F.ok sc_Scene_listed_slots (fun vs H Q E h => ?_) (fun cdv A outer s H vs Q E hr h => ?_)
  · obtain ⟨_, _, _, _, _, rfl, _⟩ := h
    rfl
  · have hu := hu_of hr
    obtain ⟨s, p, S, c, m, rfl, hS, hc, ht, k⟩ := h
    obtain ⟨l, w, q, f1, f2, f3, f4, h2, h3, h4⟩ := hS.open T
    have ok := hS.rule.ok
    obtain ⟨m1, m2⟩ := ok.tm m ht
    have n4 := ok.n4
    obtain ⟨rl, rt, rs, rf1, rf2, rf3, r2, r3, r4⟩ := hS.rule.open T
    refine ⟨_, PSs.nox ((pss_cons (ps_set (i := 2) sc_Scene_listed_slots.nd rfl (by first | exact Or.inl rfl | exact Or.inr rfl) (pe_op op_sub (pe_callB call_len_seq (by rfl) T.f_len (by decide +kernel) (pa_cons (pe_m0 c_R_gaps hr (by decide) (pe_f (pv 0))) pa_nil)) (pe_ix ix_tup (pe_m0 c_R_tail hr (by decide) (pe_f (pv 0))) pe_int (fun _ _ => rfl))))
      (pss_one (ps_ret (pe_lc (own := [("attempt", 3)]) (g := (gName 3)) (tt := tYes) rfl sc_Scene_listed_slots.nd (pi_range1 (by rfl) T.f_range (pa_cons (pe_op op_add (pv 2) pe_int) pa_nil)) (blkOk_by (own := [("attempt", 3)]) (N := ["self", "client", "count", "attempt"]) (sc := defScope s_Scene_listed_slots) (by decide +kernel)) (fun _ _ _ _ _ => (pg_name (i := 3) sc_Scene_listed_slots.nd rfl (by first | exact Or.inl rfl | exact Or.inr rfl))) (fun _ _ _ _ _ => pts_nil) (fun _ _ _ _ _ => (pe_op op_add (pe_ix (ix_listK (K := K) rfl) (pe_fK (K := K) rfl (pv 0)) (pv 1) (fun _ _ => rfl)) (pe_m c_R_offset_of hr (by decide) (pe_fK (K := K) rfl (pv 0)) (pa_cons (pv 3) pa_nil))))))))), ?_⟩
    have hgl : (S.R.g.map V.int).length = S.R.n := List.length_map ..
    refine ⟨_, rfl, _, f1, hS.rule.md mR_gaps, p, S.R, rfl, hS.rule, fun g hg => ⟨g, _, rfl, .inl (SqL.of upd_same), ?_⟩⟩
    have s1 : Same H (upd H g (.lst (S.R.g.map V.int))) := same_new hg
    have hR1 := hS.rule.mono s1
    refine ⟨_, rfl, _, f1.mono s1, hR1.md mR_tail, p, S.R, rfl, hR1, fun t2 ht2 => ⟨t2, _, _, _, rfl, rfl, SqT.of ht2, (by rw [ht]; rfl), _, _, rfl, rfl, ?_⟩⟩
    have e1 : ((S.R.g.map V.int).length : Int) - (m : Int) = ((S.R.n - m : Nat) : Int) := by rw [hgl]; omega
    dsimp only
    rw [e1]
    refine ⟨_, rfl, _, _, rfl, rfl, ((S.R.n - m : Nat) : Int) + 1, rfl, by omega, by omega, fun D hD => lc_pure (walk_range (lo := 0) (n := (((S.R.n - m : Nat) : Int) + 1).toNat)) (fun _ => true) (fun i y _ => y = .int (S.at c + S.R.off i)) (fun _ _ _ _ _ h => h) hD (by omega) (fun _ _ => trivial) ?_ ?_⟩
    · rintro i x H1 H2 Ky Kn hi s2 hx hy _
      obtain ⟨rfl, rfl⟩ := hx
      have s12 := s1.trans s2
      have hi2 : i < S.R.n - m + 1 := by omega
      have e2 : (0 : Int) + (i : Nat) = (i : Nat) := Int.zero_add _
      refine ⟨rfl, yes_te ?_⟩
      refine ⟨_, rfl, _, f2.mono s12, _, rfl, l, _, _, _, rfl, rfl, SqL.of (s12 _ _ h2), atI_nat (ss_at hc), _, rfl, _, f1.mono s12, (hS.rule.mono s12).md mR_offset_of, _, rfl, p, S.R, i, (by show [V.ref p, V.int ((0 : Int) + (i : Nat))] = _; rw [e2]), hS.rule.mono s12, Ru.has_inf (by rw [ht]; exact fun z => by cases z) i, fun b e => (by rw [ht] at e; cases e), _, _, rfl, rfl, ?_⟩
      exact hy rfl _ _ rfl (Same.refl _)
    · intro H1 acc s2 hD1 hm
      have hacc := Made.fn (H := H1) (f := fun i => V.int (S.at c + S.R.off i)) hm
      have e3 : ((List.range (((S.R.n - m : Nat) : Int) + 1).toNat).filter fun _ => true) = List.range (S.R.n - m + 1) := by
        rw [List.filter_eq_self.mpr fun _ _ => rfl]
        congr 1
      rw [e3] at hacc
      refine k D H1 (s1.trans s2) ?_
      rw [hD1, hacc]
      unfold Sc.lst
      rw [List.map_map]
      rfl
def sp_Scene_moments (K : PySem.W.Frag) : Sp := fun vs H Q _ => ∃ (s p : Addr) (S : Sc), vs = [.ref s] ∧ SceneAt K H s p S ∧ S.ss.length ≤ 6 ∧ ∀ l ns H', Same H H' → H' l = some (.lst (ns.map V.int)) → IsMom S ns → Q (.ref l) H'
theorem sc_Scene_moments : FnScope ["self", "found", "outage", "client"] ["self"] (defScope s_Scene_moments) := ⟨rfl, rfl, rfl, by decide +kernel, rfl, by decide +kernel, by decide +kernel⟩
theorem ok_Scene_moments {f : Addr} {fd : FuncData} (F : FunD K "moments" "Scene.moments" (defArgs s_Scene_moments) (defBody s_Scene_moments) (defScope s_Scene_moments) [] [] f fd) (T : Txt K mg) (c_R_period : C8.Met P w K mg base 1 (cR K) "period" (sp_Rule_period K) []) (c_S_listed_slots : C8.Met P w K mg base 3 (cS K) "listed_slots" (sp_Scene_listed_slots K) []) :
    FnOk P w K mg base CX0 4 f fd ["self"] (sp_Scene_moments K) := by
  refine F.ok sc_Scene_moments (fun vs H Q E h => ?_) (fun cdv A outer s H vs Q E hr h => ?_)
  · obtain ⟨_, _, _, rfl, _⟩ := h
    rfl
  · have hu := hu_of hr
    obtain ⟨s, p, S, rfl, hS, h6, k⟩ := h
    obtain ⟨l, w, q, f1, f2, f3, f4, h2, h3, h4⟩ := hS.open T
    have ok := hS.rule.ok
    refine ⟨_, PSs.nox ((pss_cons (ps_set (i := 1) sc_Scene_moments.nd rfl (by first | exact Or.inl rfl | exact Or.inr rfl) (pe_callTy call_list_of (by rfl) T.f_list (by decide +kernel) (pa_cons (pe_f (pv 0)) pa_nil)))
      (pss_cons (ps_for PassesOwn.never rfl (pi_list (pe_f (pv 0))) (pg_name (i := 2) sc_Scene_moments.nd rfl (by first | exact Or.inl rfl | exact Or.inr rfl)) (pss_one (ps_expr (pe_bm PySem.F.plainAttrs_list PySem.F.slot_list_extend PySem.F.type_list_extend mt_extT (pv 1) (pa_cons (pv 2) pa_nil)))))
      (pss_cons (ps_if (pt_cmpR op_notN (pe_m0 c_R_period hr (by decide) (pe_f (pv 0))) pe_non (nomark _)) (pss_one (ps_for PassesOwn.never rfl (pi_range1 (by rfl) T.f_range (pa_cons (pe_callB call_len_seq (by rfl) T.f_len (by decide +kernel) (pa_cons (pe_f (pv 0)) pa_nil)) pa_nil)) (pg_name (i := 3) sc_Scene_moments.nd rfl (by first | exact Or.inl rfl | exact Or.inr rfl)) (pss_one (ps_expr (pe_bm PySem.F.plainAttrs_list PySem.F.slot_list_extend PySem.F.type_list_extend mt_extend (pv 1) (pa_cons (pe_m c_S_listed_slots hr (by decide) (pv 0) (pa_cons (pv 3) pa_nil)) pa_nil)))))) pss_nil)
      (pss_one (ps_ret (pe_callB cr_sortedI (by rfl) T.f_sorted (by decide +kernel) (pa_cons (pv 1) pa_nil)))))))), ?_⟩
    refine ⟨_, rfl, _, f2, l, _, rfl, .inl (SqL.of h2), fun g hg => ?_⟩
    have s1 : Same H (upd H g (.lst (S.ss.map V.int))) := same_new hg
    have hg0 := hg
    refine ⟨_, rfl, _, f3.mono s1, w, rfl, ⟨[V.ref q], SqL.of (s1 _ _ h3)⟩, for_list (K := K) (a := w) (xs := [V.ref q]) (fun i σ' H' => ∃ v2 v3 : Option V, σ' = [some (.ref s), some (.ref g), v2, v3] ∧ Same H H' ∧ H' g = some (.lst ((S.ss ++ (if i = 0 then [] else [S.oa, S.ob])).map V.int))) ?_ ?_ ?_ ?_⟩
    · exact ⟨none, none, rfl, s1, by rw [upd_same, if_pos rfl, List.append_nil]⟩
    · rintro i σ' H' _ ⟨_, _, _, s2, _⟩
      exact SqL.of (s2 _ _ h3)
    · rintro i x σ' H' hx ⟨v2, v3, rfl, s2, h5⟩
      have hi : i = 0 := by
        have := (List.getElem?_eq_some_iff.mp hx).1
        simp at this
        exact this
      subst hi
      have ex : x = .ref q := (Option.some.inj hx).symm
      subst ex
      rw [if_pos rfl, List.append_nil] at h5
      refine ⟨_, rfl, .inl ⟨rfl, _, SqL.of h5⟩, _, rfl, g, q, _, _, rfl, rfl, h5, SqT.of (s2 _ _ h4), szL (by rw [List.length_map]; show S.ss.length + 2 ≤ 100000; omega), ?_⟩
      refine ⟨_, _, rfl, same_mu s2 hg0, ?_⟩
      rw [upd_same, if_neg (by omega), List.map_append]
      rfl
    rintro σ' H2 ⟨v2, v3, rfl, s2, h5⟩
    rw [if_neg (show ¬ [V.ref q].length = 0 from fun z => by cases z)] at h5
    have hlen : (S.ss.map V.int).length = S.ss.length := List.length_map ..
    have fin : ∀ (v3 : Option V) (H3 : Hp) (xs : List Int), Same H H3 → H3 g = some (.lst ((S.ss ++ [S.oa, S.ob] ++ xs).map V.int)) → xs.length ≤ 30 → (∀ y, y ∈ xs ↔ ∃ m, S.R.t = .rep m ∧ ∃ c, c < S.ss.length ∧ y ∈ S.lst m c) →
        tRet (tCB (rSortedI K) (tCons (tVar 1) tNil)) { nx := fun _ H' => Q .non H', rt := Q } [some (.ref s), some (.ref g), v2, v3] H3 := by
      intro v3 H3 xs s3 h6 hx30 hxs
      refine ⟨_, rfl, g, _, rfl, SqL.of h6, fun ns' r hp hs hr => k r ns' _ (s3.trans (same_new hr)) upd_same ⟨hs, fun y => ?_, ?_⟩⟩
      · rw [hp.mem_iff, List.mem_append, List.mem_append, hxs]
        simp only [List.mem_cons, List.not_mem_nil, or_false, or_assoc]
      · rw [hp.length_eq, List.length_append, List.length_append]
        show S.ss.length + 2 + xs.length ≤ 40
        omega
    refine ⟨_, rfl, _, f1.mono s2, (hS.rule.mono s2).md mR_period, p, S.R, rfl, hS.rule.mono s2, rfl, ?_⟩
    unfold Ru.perV
    cases e : S.R.t with
    | fin =>
      refine ⟨false, rfl, iteF (fin _ _ [] s2 (by rw [List.append_nil]; exact h5) (by simp) fun y => ⟨fun h => absurd h List.not_mem_nil, ?_⟩)⟩
      rintro ⟨m, h, _⟩
      rw [e] at h; cases h
    | tim b =>
      refine ⟨false, rfl, iteF (fin _ _ [] s2 (by rw [List.append_nil]; exact h5) (by simp) fun y => ⟨fun h => absurd h List.not_mem_nil, ?_⟩)⟩
      rintro ⟨m, h, _⟩
      rw [e] at h; cases h
    | rep m =>
      obtain ⟨m1, m2⟩ := ok.tm m e
      have n4 := ok.n4
      have hll : ∀ c, (S.lst m c).length = S.R.n - m + 1 := fun c => by unfold Sc.lst; rw [List.length_map, List.length_range]
      have hfl : ∀ i, ((List.range i).flatMap (S.lst m)).length = i * (S.R.n - m + 1) := fun i => by
        induction i with
        | zero => simp
        | succ i ih =>
          rw [List.range_succ, List.flatMap_append, List.length_append, ih, List.flatMap_cons, List.flatMap_nil, List.append_nil, hll, Nat.succ_mul]
      have hfl6 : ∀ i, i ≤ S.ss.length → ((List.range i).flatMap (S.lst m)).length ≤ 24 := fun i hi => by
        rw [hfl]
        exact Nat.le_trans (Nat.mul_le_mul (show i ≤ 6 by omega) (show S.R.n - m + 1 ≤ 4 by omega)) (by decide)
      refine ⟨true, rfl, iteT ?_⟩
      refine ⟨_, rfl, _, f2.mono s2, l, _, rfl, .inl (SqL.of (s2 _ _ h2)), ((S.ss.map V.int).length : Int), rfl, by omega, by omega, for_it (walk_range (lo := 0) (n := ((S.ss.map V.int).length : Int).toNat)) (fun i σ' H' => ∃ v3 : Option V, σ' = [some (.ref s), some (.ref g), v2, v3] ∧ Same H H' ∧
        H' g = some (.lst ((S.ss ++ [S.oa, S.ob] ++ (List.range i).flatMap (S.lst m)).map V.int))) ⟨v3, rfl, s2, by rw [List.range_zero, List.flatMap_nil, List.append_nil]; exact h5⟩ (fun _ _ _ _ _ => trivial) ?_ ?_⟩
      · rintro i x σ' H3 H4 hi ⟨v3, rfl, s3, h6⟩ ⟨rfl, rfl⟩
        have hi2 : i < S.ss.length := by omega
        have e2 : (0 : Int) + (i : Nat) = (i : Nat) := Int.zero_add _
        have hS3 := hS.mono s3
        refine ⟨_, rfl, .inl ⟨rfl, _, SqL.of h6⟩, _, rfl, hS3.md mS_listed_slots, _, rfl, s, p, S, i, m, (by show [V.ref s, V.int ((0 : Int) + (i : Nat))] = _; rw [e2]), hS3, hi2, e, fun l2 H5 s5 h7 => ?_⟩
        refine ⟨g, l2, _, _, rfl, rfl, s5 _ _ h6, h7, szL ?_, ?_⟩
        · have h8 := hfl6 i (by omega)
          rw [List.length_map, List.length_append, List.length_append, List.length_map, hll]
          show S.ss.length + 2 + _ + _ ≤ 100000
          omega
        · refine ⟨_, rfl, same_mu (s3.trans s5) hg0, ?_⟩
          rw [upd_same, List.range_succ, List.flatMap_append, List.flatMap_cons, List.flatMap_nil, List.append_nil, ← List.append_assoc]
          exact congrArg (fun z => some (HO.lst z)) List.map_append.symm
      · rintro σ' H3 ⟨v3, rfl, s3, h6⟩
        have e3 : ((S.ss.map V.int).length : Int).toNat = S.ss.length := by omega
        rw [e3] at h6
        refine fin _ _ _ s3 h6 (Nat.le_trans (hfl6 _ (Nat.le_refl _)) (by decide)) fun y => ?_
        rw [List.mem_flatMap]
        constructor
        · rintro ⟨c, hc, hy⟩
          exact ⟨m, e, c, List.mem_range.mp hc, hy⟩
        · rintro ⟨m', h, c, hc, hy⟩
          rw [e] at h
          cases h
          exact ⟨c, List.mem_range.mpr hc, hy⟩
end
end My
set_option Elab.async false
set_option linter.all false
set_option maxRecDepth 100000
set_option maxHeartbeats 4000000
/-! The run: its steps come to an end. Plain Lean. -/
namespace My
open PySem PySem.Spec PyProof.Rows L2
structure RSt where
  wait : List (Nat × Nat)
  closed : List Nat
  serv : List (Nat × Nat × Int)
  free : Int
def Sc.slot (S : Sc) (q : Nat × Nat) : Int := S.at q.1 + S.R.off q.2
structure IsMin (S : Sc) (w : List (Nat × Nat)) (slot : Int) : Prop where
  mem : ∃ q ∈ w, S.slot q = slot
  le : ∀ q ∈ w, slot ≤ S.slot q
/-- the latest moment up to a slot -/
structure Lat (chg : List Int) (free slot y : Int) : Prop where
  mem : y ∈ chg ∨ y = free
  le : y ≤ slot
  top : ∀ z, z ∈ chg ∨ z = free → z ≤ slot → z ≤ y
def fresh (S : Sc) (m : Nat) (y : Int) (q : Nat × Nat) : Bool := decide (S.at q.1 + S.R.off (S.R.n - m) ≤ y)
def RSt.skip (S : Sc) (st : RSt) (e : Int) : RSt := { st with wait := st.wait.filterMap fun q => (S.R.first (e - S.at q.1)).map fun a => (q.1, a) }
def RSt.close (S : Sc) (st : RSt) (m : Nat) (y : Int) : RSt := { st with wait := st.wait.filter (fun q => !fresh S m y q), closed := st.closed ++ (st.wait.filter (fresh S m y)).map (·.1) }
def RSt.serve (S : Sc) (st : RSt) (c a : Nat) (slot : Int) : RSt := { st with wait := st.wait.filter (fun q => decide (q.1 ≠ c)), serv := st.serv ++ [(c, a, slot)], free := slot + S.len }
def RSt.meet (S : Sc) (st : RSt) (slot : Int) : RSt := { st with wait := st.wait.filterMap fun q => if S.slot q = slot then (if S.R.has (q.2 + 1) = true then some (q.1, q.2 + 1) else none) else some q }
inductive Adv (S : Sc) (chg : List Int) (st : RSt) : RSt → Prop
  | skip {slot e : Int} (hm : IsMin S st.wait slot) (he : (slot < st.free ∧ e = st.free) ∨ (st.free ≤ slot ∧ S.out slot = true ∧ e = S.ob)) : Adv S chg st (st.skip S e)
  | close {slot y : Int} {m : Nat} (hm : IsMin S st.wait slot) (ht : S.R.t = .rep m) (hl : Lat chg st.free slot y) (hp : S.R.per m < slot - y) : Adv S chg st (st.close S m y)
  | serve {slot : Int} {c a : Nat} (hm : IsMin S st.wait slot) (ho : S.out slot = false) (hq : (c, a) ∈ st.wait) (hs : S.slot (c, a) = slot) : Adv S chg st (st.serve S c a slot)
  | meet {slot : Int} (hm : IsMin S st.wait slot) (hr : ∀ m, S.R.t = .rep m → ∃ y, Lat chg st.free slot y ∧ slot - y ≤ S.R.per m)
      (hd : ∃ c a c', (c, a) ∈ st.wait ∧ S.slot (c, a) = slot ∧ c' ≠ c ∧ c' < S.ss.length ∧ S.R.hit (slot - S.at c') = true) : Adv S chg st (st.meet S slot)
def XB (v : Nat) : Int := 50000 * ((5 ^ (6 - v) : Nat) : Int)
theorem XB_le {v w : Nat} (h : v ≤ w) : XB w ≤ XB v := by
  unfold XB
  have : 5 ^ (6 - w) ≤ 5 ^ (6 - v) := Nat.pow_le_pow_right (by decide) (by omega)
  have := Int.ofNat_le.mpr this
  omega
theorem XB_lt {v w : Nat} (h : v < w) (h6 : w ≤ 6) : 5 * XB w ≤ XB v := by
  refine Int.le_trans ?_ (XB_le (show v ≤ w - 1 by omega))
  unfold XB
  have : 5 ^ (6 - (w - 1)) = 5 * 5 ^ (6 - w) := by
    rw [show 6 - (w - 1) = (6 - w) + 1 by omega, Nat.pow_succ, Nat.mul_comm]
  rw [this, Int.natCast_mul]
  omega
theorem XB_lo (v : Nat) : 50000 ≤ XB v := by
  have := XB_le (show v ≤ v + 6 by omega)
  have h : XB (v + 6) = 50000 := by
    unfold XB
    rw [show 6 - (v + 6) = 0 by omega]
    rfl
  omega
theorem XB_hi (v : Nat) : XB v ≤ 781250000 := by
  have := XB_le (Nat.zero_le v)
  have h : XB 0 = 781250000 := by decide
  omega
structure Good (S : Sc) (st : RSt) : Prop where
  nd : (st.wait.map (·.1)).Nodup
  lt : ∀ q ∈ st.wait, q.1 < S.ss.length ∧ S.R.has q.2 = true ∧ S.R.off q.2 ≤ 4 * XB st.wait.length + 600
  uniq : ∀ q ∈ st.wait, ∀ c', c' < S.ss.length → c' ≠ q.1 → S.at c' ≠ S.at q.1
  cl : ∀ c ∈ st.closed, c < S.ss.length ∧ c ∉ st.wait.map (·.1)
  sv : ∀ z ∈ st.serv, z.1 < S.ss.length ∧ S.ob ≤ z.2.2 ∧ z.1 ∉ st.wait.map (·.1)
  fr : st.free ≤ S.oa + XB st.wait.length
  len : st.closed.length + st.wait.length ≤ 6
  len2 : st.serv.length + st.wait.length ≤ 6
def mins (S : Sc) : List (Nat × Nat) → Int
  | [] => 0
  | [q] => S.slot q
  | q :: w => if S.slot q ≤ mins S w then S.slot q else mins S w
theorem mins_min (S : Sc) : ∀ {w : List (Nat × Nat)}, w ≠ [] → IsMin S w (mins S w)
  | [], h => absurd rfl h
  | [q], _ => ⟨⟨q, List.mem_cons_self .., rfl⟩, fun z hz => by rw [List.mem_singleton] at hz; rw [hz]; exact Int.le_refl _⟩
  | q :: p :: w, _ => by
    have ih := mins_min S (w := p :: w) (by simp)
    show IsMin S (q :: p :: w) (if S.slot q ≤ mins S (p :: w) then S.slot q else mins S (p :: w))
    split
    · rename_i h
      refine ⟨⟨q, List.mem_cons_self .., rfl⟩, fun z hz => ?_⟩
      rcases List.mem_cons.mp hz with e | hz
      · rw [e]; exact Int.le_refl _
      · exact Int.le_trans h (ih.le z hz)
    · rename_i h
      obtain ⟨x, hx, hx2⟩ := ih.mem
      refine ⟨⟨x, List.mem_cons_of_mem _ hx, hx2⟩, fun z hz => ?_⟩
      rcases List.mem_cons.mp hz with e | hz
      · rw [e]; omega
      · exact ih.le z hz
theorem IsMin.uniq {S : Sc} {w : List (Nat × Nat)} {x y : Int} (h1 : IsMin S w x) (h2 : IsMin S w y) : x = y := by
  obtain ⟨q, hq, rfl⟩ := h1.mem
  obtain ⟨p, hp, rfl⟩ := h2.mem
  have := h1.le p hp
  have := h2.le q hq
  omega
def rank (S : Sc) (st : RSt) : Nat := st.wait.length * 1000000000 + (if st.wait = [] then 0 else (S.oa + XB st.wait.length + 40000 - mins S st.wait).toNat)
theorem Sc.Ok.at_ {S : Sc} (h : S.Ok) {c : Nat} (hc : c < S.ss.length) : S.oa ≤ S.at c ∧ S.at c ≤ S.oa + 19 ∧ S.at c < S.ob := h.st _ (S.at_mem hc)
theorem Good.min_ge {S : Sc} (ok : S.Ok) {st : RSt} (g : Good S st) {slot : Int} (h : IsMin S st.wait slot) : S.oa ≤ slot := by
  obtain ⟨q, hq, rfl⟩ := h.mem
  have h1 := (ok.at_ (g.lt q hq).1).1
  have h2 := S.R.off_nn ok.rok q.2
  unfold Sc.slot
  omega
/-- fewer wait, or the least slot rises below the cap -/
theorem rank_lt {S : Sc} (ok : S.Ok) {st st' : RSt} (g : Good S st) (g' : Good S st') {slot : Int} (h : IsMin S st.wait slot)
    (hd : st'.wait.length < st.wait.length ∨ (st'.wait.length = st.wait.length ∧ slot < S.oa + XB st.wait.length + 40000 ∧ ∀ q ∈ st'.wait, slot < S.slot q)) : rank S st' < rank S st := by
  have hne : st.wait ≠ [] := by
    obtain ⟨q, hq, _⟩ := h.mem
    exact List.ne_nil_of_mem hq
  have e1 : mins S st.wait = slot := (mins_min S hne).uniq h
  unfold rank
  rw [if_neg hne]
  rcases hd with hd | ⟨h1, h2, h3⟩
  · have hb : (if st'.wait = [] then 0 else (S.oa + XB st'.wait.length + 40000 - mins S st'.wait).toNat) < 1000000000 := by
      split
      · decide
      · rename_i e
        have h4 := g'.min_ge ok (mins_min S e)
        have := XB_hi st'.wait.length
        omega
    have : st'.wait.length * 1000000000 + 1000000000 ≤ st.wait.length * 1000000000 := by omega
    omega
  · have hne' : st'.wait ≠ [] := fun e => by
      rw [e] at h1
      exact hne (List.length_eq_zero_iff.mp h1.symm)
    obtain ⟨q, hq, hq2⟩ := (mins_min S hne').mem
    have := h3 q hq
    rw [if_neg hne', h1, e1]
    omega
/-! ### growth of the offsets -/
theorem Ru.gap_next {r : Ru} (h : r.Ok) (a : Nat) : r.off (a + 1) ≤ 4 * r.off a + 30 := by
  show r.off a + r.gap a ≤ _
  have h0 := r.off_nn h a
  by_cases hlow : a < r.n
  · rw [Ru.gap_low hlow]
    have := (h.at_ a).2
    omega
  · unfold Ru.gap
    rw [if_neg hlow]
    split
    · omega
    · rename_i b e
      have hb := h.tb b e
      have n1 := h.n1
      have hl := h.at_ (r.n - 1)
      have hl1 : 1 ≤ r.last ∧ r.last ≤ 30 := hl
      obtain ⟨k, rfl⟩ : ∃ k, a = r.n + k := ⟨a - r.n, by omega⟩
      rw [Nat.add_sub_cancel_left]
      -- off (n + k) ≥ gap before
      have hg : r.last * (b : Int) ^ k ≤ r.off (r.n + k) := by
        cases k with
        | zero =>
          simp only [Int.pow_zero, Int.mul_one, Nat.add_zero]
          obtain ⟨j, hj⟩ : ∃ j, r.n = j + 1 := ⟨r.n - 1, by omega⟩
          have h2 : r.off r.n = r.off j + r.gap j := by rw [hj]; rfl
          rw [h2, Ru.gap_low (by omega)]
          have h3 := r.off_nn h j
          have h4 : r.last = r.g.getD j 1 := by unfold Ru.last; rw [hj]; rfl
          omega
        | succ k =>
          have h2 : r.off (r.n + (k + 1)) = r.off (r.n + k) + r.gap (r.n + k) := rfl
          have h3 := r.off_nn h (r.n + k)
          have h4 : r.gap (r.n + k) = r.last * (b : Int) ^ (k + 1) := by
            unfold Ru.gap
            rw [if_neg (by omega), e]
            show r.last * (b : Int) ^ (r.n + k - r.n + 1) = _
            rw [Nat.add_sub_cancel_left]
          omega
      have h5 : r.last * (b : Int) ^ (k + 1) = (r.last * (b : Int) ^ k) * b := by rw [Int.pow_succ, Int.mul_assoc]
      rw [h5]
      generalize r.last * (b : Int) ^ k = z at *
      rcases hb with rfl | rfl <;> omega
    · rename_i m e
      have := (h.at_ (r.n - m + (a - r.n) % m)).2
      omega
theorem Ru.off_n {r : Ru} (h : r.Ok) {a : Nat} (ha : a ≤ r.n) : r.off a ≤ 120 := by
  have h1 := Ru.off_low h ha
  have := h.n4
  omega
theorem Ru.off_n4 {r : Ru} (h : r.Ok) : r.off (r.n + 4) ≤ 33270 := by
  have h0 := r.off_n h (Nat.le_refl _)
  have h1 := r.gap_next h r.n
  have h2 := r.gap_next h (r.n + 1)
  have h3 := r.gap_next h (r.n + 2)
  have h4 := r.gap_next h (r.n + 3)
  have e1 : r.off (r.n + 1 + 1) = r.off (r.n + 2) := rfl
  have e2 : r.off (r.n + 2 + 1) = r.off (r.n + 3) := rfl
  have e3 : r.off (r.n + 3 + 1) = r.off (r.n + 4) := rfl
  omega
/-- times: two starts that stand near each other meet early only -/
theorem Ru.meets {r : Ru} (h : r.Ok) {b : Nat} (e : r.t = .tim b) {a a' : Nat} (hlt : a' < a) (hd : r.off a - r.off a' ≤ 19) : r.off a ≤ 33270 := by
  rcases Nat.lt_or_ge (r.n + 4) a with q | q
  · exfalso
    obtain ⟨k, rfl⟩ : ∃ k, a = r.n + (k + 4) + 1 := ⟨a - r.n - 5, by omega⟩
    have h1 : r.off (r.n + (k + 4) + 1) = r.off (r.n + (k + 4)) + r.gap (r.n + (k + 4)) := rfl
    have h2 := Ru.off_le h (show a' ≤ r.n + (k + 4) by omega)
    have hg : r.gap (r.n + (k + 4)) = r.last * (b : Int) ^ (k + 4 + 1) := by
      unfold Ru.gap
      rw [if_neg (by omega), e]
      show r.last * (b : Int) ^ (r.n + (k + 4) - r.n + 1) = _
      rw [Nat.add_sub_cancel_left]
    have hl : 1 ≤ r.last := (h.at_ _).1
    have hb := h.tb b e
    have h3 : ((2 ^ (k + 4 + 1) : Nat) : Int) ≤ ((b ^ (k + 4 + 1) : Nat) : Int) := Int.ofNat_le.mpr (Nat.pow_le_pow_left (by omega) _)
    have h4 : ((b ^ (k + 4 + 1) : Nat) : Int) = (b : Int) ^ (k + 4 + 1) := Int.natCast_pow _ _
    have h5 : 32 ≤ 2 ^ (k + 4 + 1) := Nat.pow_le_pow_right (n := 2) (by decide) (show 5 ≤ k + 4 + 1 by omega)
    have h6 : (32 : Int) ≤ ((2 ^ (k + 4 + 1) : Nat) : Int) := Int.ofNat_le.mpr h5
    rw [h4] at h3
    generalize ((2 ^ (k + 4 + 1) : Nat) : Int) = x at *
    generalize (b : Int) ^ (k + 4 + 1) = z at *
    have h7 : 1 * z ≤ r.last * z := Int.mul_le_mul_of_nonneg_right hl (by omega)
    omega
  · have := Ru.off_le h q
    have := r.off_n4 h
    omega
theorem IsMom.le {S : Sc} (ok : S.Ok) {chg : List Int} (h : IsMom S chg) {y : Int} (hy : y ∈ chg) : y ≤ S.oa + 139 := by
  have hw := ok.w60
  rcases (h.mem y).mp hy with h1 | h1 | h1 | ⟨m, hm, c, hc, h1⟩
  · have := ok.st y h1
    omega
  · omega
  · omega
  · unfold Sc.lst at h1
    obtain ⟨k, hk, rfl⟩ := List.mem_map.mp h1
    have h2 := ok.at_ hc
    rw [List.mem_range] at hk
    have h3 := (ok.rok.tm m hm).1
    have h4 := S.R.off_n ok.rok (show k ≤ S.R.n by omega)
    omega
theorem filterMap_keys {f : Nat × Nat → Option (Nat × Nat)} (hf : ∀ q p, f q = some p → p.1 = q.1) : ∀ {w : List (Nat × Nat)}, ((w.filterMap f).map (·.1)).Sublist (w.map (·.1))
  | [] => .slnil
  | q :: w => by
    rw [List.filterMap_cons]
    cases e : f q with
    | none => exact (filterMap_keys hf).cons _
    | some p =>
      rw [List.map_cons, List.map_cons, hf q p e]
      exact (filterMap_keys hf).cons₂ _
/-- what stays true while fewer wait -/
theorem Good.less {S : Sc} {st st' : RSt} (g : Good S st) (hs : (st'.wait.map (·.1)).Sublist (st.wait.map (·.1)))
    (hl : ∀ q ∈ st'.wait, S.R.has q.2 = true ∧ S.R.off q.2 ≤ 4 * XB st'.wait.length + 600) (hc : ∀ c ∈ st'.closed, c ∈ st.closed ∨ (c ∈ st.wait.map (·.1) ∧ c ∉ st'.wait.map (·.1)))
    (hv : ∀ z ∈ st'.serv, z ∈ st.serv ∨ (z.1 ∈ st.wait.map (·.1) ∧ z.1 ∉ st'.wait.map (·.1) ∧ S.ob ≤ z.2.2)) (hf : st'.free ≤ S.oa + XB st'.wait.length)
    (hlen : st'.closed.length + st'.wait.length ≤ 6) (hlen2 : st'.serv.length + st'.wait.length ≤ 6) : Good S st' := by
  have hk : ∀ c, c ∈ st.wait.map (·.1) → c < S.ss.length := fun c hc => by
    obtain ⟨q, hq, rfl⟩ := List.mem_map.mp hc
    exact (g.lt q hq).1
  refine ⟨g.nd.sublist hs, fun q hq => ⟨hk _ (hs.subset (List.mem_map_of_mem hq)), hl q hq⟩, fun q hq c' h1 h2 => ?_, fun c hcc => ?_, fun z hz => ?_, hf, hlen, hlen2⟩
  · obtain ⟨p, hp, hp2⟩ := List.mem_map.mp (hs.subset (List.mem_map_of_mem hq))
    rw [← hp2] at h2 ⊢
    exact g.uniq p hp c' h1 h2
  · rcases hc c hcc with h | ⟨h1, h2⟩
    · exact ⟨(g.cl c h).1, fun q => (g.cl c h).2 (hs.subset q)⟩
    · exact ⟨hk c h1, h2⟩
  · rcases hv z hz with h | ⟨h1, h2, h3⟩
    · exact ⟨(g.sv z h).1, (g.sv z h).2.1, fun q => (g.sv z h).2.2 (hs.subset q)⟩
    · exact ⟨hk _ h1, h3, h2⟩
theorem adv_good {S : Sc} (ok : S.Ok) {chg : List Int} (hm : IsMom S chg) {st st' : RSt} (g : Good S st) (h : Adv S chg st st') : Good S st' ∧ rank S st' < rank S st := by
  have hw := ok.w60
  have hX := XB_lo st.wait.length
  cases h with
  | @skip slot e hmin he =>
    have hse : slot < e ∧ e ≤ S.oa + XB st.wait.length := by
      rcases he with ⟨h1, rfl⟩ | ⟨h1, h2, rfl⟩
      · exact ⟨h1, g.fr⟩
      · unfold Sc.out at h2
        have := of_decide_eq_true h2
        omega
    have hsub : ((st.skip S e).wait.map (·.1)).Sublist (st.wait.map (·.1)) := filterMap_keys fun q p hp => by
      obtain ⟨a, _, rfl⟩ := Option.map_eq_some_iff.mp hp
      rfl
    have hle : (st.skip S e).wait.length ≤ st.wait.length := List.length_filterMap_le _ _
    have hXX := XB_le hle
    have hmem : ∀ q ∈ (st.skip S e).wait, S.R.has q.2 = true ∧ S.R.off q.2 ≤ 4 * XB st.wait.length + 600 ∧ e ≤ S.slot q := fun q hq => by
      obtain ⟨p, hp, hpq⟩ := List.mem_filterMap.mp hq
      obtain ⟨a, ha, rfl⟩ := Option.map_eq_some_iff.mp hpq
      obtain ⟨f1, f2, f3⟩ := (Ru.first_some ok.rok).mp ha
      have hat := ok.at_ (g.lt p hp).1
      refine ⟨f1, ?_, by show e ≤ S.at p.1 + S.R.off a; omega⟩
      show S.R.off a ≤ _
      cases a with
      | zero => show (0 : Int) ≤ _; omega
      | succ a =>
        have h1 := f3 a (by omega)
        have h2 := S.R.gap_next ok.rok a
        omega
    have g' : Good S (st.skip S e) := g.less hsub (fun q hq => ⟨(hmem q hq).1, by have := (hmem q hq).2.1; omega⟩) (fun c hc => .inl hc) (fun z hz => .inl hz) (by show st.free ≤ _; have := g.fr; omega)
      (by show st.closed.length + _ ≤ 6; have := g.len; omega) (by show st.serv.length + _ ≤ 6; have := g.len2; omega)
    refine ⟨g', rank_lt ok g g' hmin ?_⟩
    rcases Nat.lt_or_eq_of_le hle with q | q
    · exact .inl q
    · exact .inr ⟨q, by omega, fun q hq => by have := (hmem q hq).2.2; omega⟩
  | @close slot y m hmin ht hl hp =>
    have hsub : ((st.close S m y).wait.map (·.1)).Sublist (st.wait.map (·.1)) := List.Sublist.map _ List.filter_sublist
    have hle : (st.close S m y).wait.length ≤ st.wait.length := List.length_filter_le _ _
    have hXX := XB_le hle
    have hper := Ru.per_pos ok.rok ht
    obtain ⟨m1, m2⟩ := ok.rok.tm m ht
    have hfr : ∃ q ∈ st.wait, fresh S m y q = true := by
      obtain ⟨q, hq, hqs⟩ := hmin.mem
      refine ⟨q, hq, ?_⟩
      have hmom : ∀ k, k ≤ S.R.n - m → S.at q.1 + S.R.off k ∈ chg := fun k hk => (hm.mem _).mpr (.inr (.inr (.inr ⟨m, ht, q.1, (g.lt q hq).1, List.mem_map.mpr ⟨k, List.mem_range.mpr (by omega), rfl⟩⟩)))
      unfold fresh
      refine decide_eq_true ?_
      rcases Int.lt_or_le slot (S.at q.1 + S.R.off (S.R.n - m)) with h1 | h1
      · exfalso
        have h2 : q.2 ≤ S.R.n - m := by
          rcases Nat.lt_or_ge (S.R.n - m) q.2 with z | z
          · have := Ru.off_lt ok.rok z
            unfold Sc.slot at hqs
            omega
          · exact z
        have h3 := hl.top _ (.inl (hmom q.2 h2)) (by unfold Sc.slot at hqs; omega)
        unfold Sc.slot at hqs
        omega
      · exact hl.top _ (.inl (hmom _ (Nat.le_refl _))) h1
    have hlt : (st.close S m y).wait.length < st.wait.length := by
      obtain ⟨q, hq, hq2⟩ := hfr
      rcases Nat.lt_or_eq_of_le hle with z | z
      · exact z
      · exfalso
        have := List.length_filter_eq_length_iff.mp z q hq
        rw [hq2] at this
        cases this
    have g' : Good S (st.close S m y) := g.less hsub (fun q hq => ?_) (fun c hc => ?_) (fun z hz => .inl hz) (by show st.free ≤ _; have := g.fr; omega)
      (by
        show (st.closed ++ (st.wait.filter (fresh S m y)).map (·.1)).length + (st.wait.filter (fun q => !fresh S m y q)).length ≤ 6
        have h1 := List.length_eq_countP_add_countP (fresh S m y) (l := st.wait)
        rw [List.countP_eq_length_filter, List.countP_eq_length_filter] at h1
        rw [List.length_append, List.length_map]
        have := g.len
        have e : (st.wait.filter fun q => decide (¬fresh S m y q = true)) = st.wait.filter (fun q => !fresh S m y q) := List.filter_congr fun q _ => by cases fresh S m y q <;> rfl
        rw [e] at h1
        omega) (by show st.serv.length + _ ≤ 6; have := g.len2; omega)
    · exact ⟨g', rank_lt ok g g' hmin (.inl hlt)⟩
    · have := g.lt q (List.mem_filter.mp hq).1
      exact ⟨this.2.1, by omega⟩
    · rcases List.mem_append.mp hc with h1 | h1
      · exact .inl h1
      · obtain ⟨q, hq, rfl⟩ := List.mem_map.mp h1
        obtain ⟨hq1, hq2⟩ := List.mem_filter.mp hq
        refine .inr ⟨List.mem_map_of_mem hq1, fun h3 => ?_⟩
        obtain ⟨p, hp1, hp2⟩ := List.mem_map.mp h3
        obtain ⟨hp3, hp4⟩ := List.mem_filter.mp hp1
        have e : fresh S m y p = fresh S m y q := by unfold fresh; rw [hp2]
        rw [e, hq2] at hp4
        cases hp4
  | @serve slot c a hmin ho hq hs =>
    have hsub : ((st.serve S c a slot).wait.map (·.1)).Sublist (st.wait.map (·.1)) := List.Sublist.map _ List.filter_sublist
    have hlt : (st.serve S c a slot).wait.length < st.wait.length := by
      rcases Nat.lt_or_eq_of_le (List.length_filter_le (fun q : Nat × Nat => decide (q.1 ≠ c)) st.wait) with z | z
      · exact z
      · exfalso
        have := List.length_filter_eq_length_iff.mp z _ hq
        simp at this
    have hXX := XB_lt hlt (by have := g.len; omega)
    have hgq : c < S.ss.length ∧ S.R.has a = true ∧ S.R.off a ≤ 4 * XB st.wait.length + 600 := g.lt _ hq
    have hat := ok.at_ hgq.1
    have hoff := S.R.off_nn ok.rok a
    have hl4 := ok.l4
    have hslot : slot = S.at c + S.R.off a := hs.symm
    have hob : S.ob ≤ slot := by
      unfold Sc.out at ho
      have h1 := of_decide_eq_false ho
      have h2 := g.min_ge ok hmin
      omega
    have g' : Good S (st.serve S c a slot) := g.less hsub (fun q hq => ?_) (fun c hc => .inl hc) (fun z hz => ?_) ?_
      (by show st.closed.length + _ ≤ 6; have := g.len; omega) (by show (st.serv ++ [(c, a, slot)]).length + _ ≤ 6; rw [List.length_append]; have := g.len2; show st.serv.length + 1 + _ ≤ 6; omega)
    · exact ⟨g', rank_lt ok g g' hmin (.inl hlt)⟩
    · have := g.lt q (List.mem_filter.mp hq).1
      exact ⟨this.2.1, by omega⟩
    · rcases List.mem_append.mp hz with h1 | h1
      · exact .inl h1
      · rw [List.mem_singleton] at h1
        subst h1
        refine .inr ⟨List.mem_map_of_mem hq, fun h3 => ?_, hob⟩
        obtain ⟨p, hp1, hp2⟩ := List.mem_map.mp h3
        have := (List.mem_filter.mp hp1).2
        simp at this
        exact this hp2
    · show slot + S.len ≤ _
      have := hgq.2.2
      omega
  | @meet slot hmin hr hd =>
    have hsub : ((st.meet S slot).wait.map (·.1)).Sublist (st.wait.map (·.1)) := filterMap_keys fun q p hp => by
      split at hp
      · split at hp
        · cases hp; rfl
        · cases hp
      · cases hp; rfl
    have hle : (st.meet S slot).wait.length ≤ st.wait.length := List.length_filterMap_le _ _
    have hXX := XB_le hle
    have hfr := g.fr
    have hcap : slot ≤ S.oa + XB st.wait.length + 140 := by
      cases e : S.R.t with
      | fin =>
        obtain ⟨q, hq, rfl⟩ := hmin.mem
        have h1 := g.lt q hq
        have h2 := h1.2.1
        rw [Ru.has_fin e] at h2
        have h3 := S.R.off_n ok.rok (of_decide_eq_true h2)
        have h4 := ok.at_ h1.1
        unfold Sc.slot
        omega
      | rep m =>
        obtain ⟨y, hl, hp⟩ := hr m e
        have h1 := Ru.per_le ok.rok e
        rcases hl.mem with h2 | h2
        · have := hm.le ok h2
          omega
        · omega
      | tim b =>
        obtain ⟨c, a, c', hc, hcs, hne, hc', hh⟩ := hd
        obtain ⟨a', ha1, ha2⟩ := (Ru.hit_iff ok.rok).mp hh
        have h1 := g.lt _ hc
        have h2 := ok.at_ h1.1
        have h3 := ok.at_ hc'
        have h4 := g.uniq _ hc c' hc' hne
        have h5 : slot = S.at c + S.R.off a := hcs.symm
        dsimp only at h2 h4
        rcases Nat.lt_trichotomy a a' with q | q | q
        · have := Ru.meets ok.rok e q (by omega)
          omega
        · subst q; omega
        · have := Ru.meets ok.rok e q (by omega)
          omega
    have hmem : ∀ q ∈ (st.meet S slot).wait, S.R.has q.2 = true ∧ S.R.off q.2 ≤ 4 * XB st.wait.length + 600 ∧ slot < S.slot q := fun q hq => by
      obtain ⟨p, hp, hpq⟩ := List.mem_filterMap.mp hq
      have h1 := g.lt p hp
      have h2 := ok.at_ h1.1
      split at hpq
      · rename_i hps
        split at hpq
        · rename_i hh
          cases hpq
          have h3 := S.R.gap_next ok.rok p.2
          have h4 := Ru.off_lt ok.rok (show p.2 < p.2 + 1 by omega)
          unfold Sc.slot at hps ⊢
          refine ⟨hh, ?_, ?_⟩
          · show S.R.off (p.2 + 1) ≤ _
            omega
          · show _ < S.at p.1 + S.R.off (p.2 + 1)
            omega
        · cases hpq
      · rename_i hps
        have e := Option.some.inj hpq
        subst e
        have := hmin.le p hp
        exact ⟨h1.2.1, h1.2.2, by omega⟩
    have g' : Good S (st.meet S slot) := g.less hsub (fun q hq => ⟨(hmem q hq).1, by have := (hmem q hq).2.1; omega⟩) (fun c hc => .inl hc) (fun z hz => .inl hz) (by show st.free ≤ _; omega)
      (by show st.closed.length + _ ≤ 6; have := g.len; omega) (by show st.serv.length + _ ≤ 6; have := g.len2; omega)
    refine ⟨g', rank_lt ok g g' hmin ?_⟩
    rcases Nat.lt_or_eq_of_le hle with q | q
    · exact .inl q
    · exact .inr ⟨q, by omega, fun q hq => (hmem q hq).2.2⟩
theorem Good.tim {S : Sc} (ok : S.Ok) {st : RSt} (g : Good S st) {q : Nat × Nat} (hq : q ∈ st.wait) : ∀ b, S.R.t = .tim b → q.2 + 1 ≤ S.R.n + 63 := fun b e => by
  have h1 := (g.lt q hq).2.2
  have h2 := XB_hi st.wait.length
  have := Ru.lid ok.rok e (d := 2 ^ 40) (Int.le_refl _) (a := q.2) fun k hk => (by have := Ru.off_lt ok.rok hk; omega)
  omega
end My
set_option Elab.async false
set_option linter.all false
set_option maxRecDepth 100000
set_option maxHeartbeats 4000000
namespace My
open PySem PySem.Spec PyProof.Rows L2
section
variable {P : Program} {w : World} {K : PySem.W.Frag} {mg : Str → Option Value} {base : Heap}
/-! ### a run -/
def ufs (s p bg cg sv cl wt : Addr) (fr : Int) : List (Str × V) :=
  putF "free_from" (.int fr) (putF "waiting" (.ref wt) (putF "closed" (.ref cl) (putF "services" (.ref sv) (putF "changes" (.ref cg) (putF "begins" (.ref bg) (putF "pattern" (.ref p) (putF "its_scene" (.ref s) [])))))))
theorem ufs_scene (s p bg cg sv cl wt : Addr) (fr : Int) : (ufs s p bg cg sv cl wt fr).lookup ("its_scene" : Str) = some (.ref s) := by kernel_rfl
theorem ufs_pattern (s p bg cg sv cl wt : Addr) (fr : Int) : (ufs s p bg cg sv cl wt fr).lookup ("pattern" : Str) = some (.ref p) := by kernel_rfl
theorem ufs_begins (s p bg cg sv cl wt : Addr) (fr : Int) : (ufs s p bg cg sv cl wt fr).lookup ("begins" : Str) = some (.ref bg) := by kernel_rfl
theorem ufs_changes (s p bg cg sv cl wt : Addr) (fr : Int) : (ufs s p bg cg sv cl wt fr).lookup ("changes" : Str) = some (.ref cg) := by kernel_rfl
theorem ufs_services (s p bg cg sv cl wt : Addr) (fr : Int) : (ufs s p bg cg sv cl wt fr).lookup ("services" : Str) = some (.ref sv) := by kernel_rfl
theorem ufs_closed (s p bg cg sv cl wt : Addr) (fr : Int) : (ufs s p bg cg sv cl wt fr).lookup ("closed" : Str) = some (.ref cl) := by kernel_rfl
theorem ufs_waiting (s p bg cg sv cl wt : Addr) (fr : Int) : (ufs s p bg cg sv cl wt fr).lookup ("waiting" : Str) = some (.ref wt) := by kernel_rfl
theorem ufs_free (s p bg cg sv cl wt : Addr) (fr : Int) : (ufs s p bg cg sv cl wt fr).lookup ("free_from" : Str) = some (.int fr) := by kernel_rfl
theorem ufs_again (s p bg cg sv cl wt : Addr) (fr fr' : Int) : putF "free_from" (.int fr') (ufs s p bg cg sv cl wt fr) = ufs s p bg cg sv cl wt fr' := by kernel_rfl
theorem ufs_len (s p bg cg sv cl wt : Addr) (fr : Int) : (ufs s p bg cg sv cl wt fr).length = 8 := by kernel_rfl
theorem mU_advance (s p bg cg sv cl wt : Addr) (fr : Int) : (ufs s p bg cg sv cl wt fr).lookup ("advance" : Str) = none := by kernel_rfl
theorem mU_failing_until (s p bg cg sv cl wt : Addr) (fr : Int) : (ufs s p bg cg sv cl wt fr).lookup ("failing_until" : Str) = none := by kernel_rfl
theorem mU_skip_to (s p bg cg sv cl wt : Addr) (fr : Int) : (ufs s p bg cg sv cl wt fr).lookup ("skip_to" : Str) = none := by kernel_rfl
theorem mU_latest_moment (s p bg cg sv cl wt : Addr) (fr : Int) : (ufs s p bg cg sv cl wt fr).lookup ("latest_moment" : Str) = none := by kernel_rfl
theorem mU_is_repeated (s p bg cg sv cl wt : Addr) (fr : Int) : (ufs s p bg cg sv cl wt fr).lookup ("is_repeated" : Str) = none := by kernel_rfl
theorem mU_close (s p bg cg sv cl wt : Addr) (fr : Int) : (ufs s p bg cg sv cl wt fr).lookup ("close" : Str) = none := by kernel_rfl
theorem mU_decide (s p bg cg sv cl wt : Addr) (fr : Int) : (ufs s p bg cg sv cl wt fr).lookup ("decide" : Str) = none := by kernel_rfl
theorem mU_outcome (s p bg cg sv cl wt : Addr) (fr : Int) : (ufs s p bg cg sv cl wt fr).lookup ("outcome" : Str) = none := by kernel_rfl
theorem mU_outcomes (s p bg cg sv cl wt : Addr) (fr : Int) : (ufs s p bg cg sv cl wt fr).lookup ("outcomes" : Str) = none := by kernel_rfl
theorem mU_order (s p bg cg sv cl wt : Addr) (fr : Int) : (ufs s p bg cg sv cl wt fr).lookup ("order" : Str) = none := by kernel_rfl
theorem mU_is_active (s p bg cg sv cl wt : Addr) (fr : Int) : (ufs s p bg cg sv cl wt fr).lookup ("is_active" : Str) = none := by kernel_rfl
theorem mU_active (s p bg cg sv cl wt : Addr) (fr : Int) : (ufs s p bg cg sv cl wt fr).lookup ("active" : Str) = none := by kernel_rfl
theorem mU_attempting (s p bg cg sv cl wt : Addr) (fr : Int) : (ufs s p bg cg sv cl wt fr).lookup ("attempting" : Str) = none := by kernel_rfl
theorem mU_busy_with (s p bg cg sv cl wt : Addr) (fr : Int) : (ufs s p bg cg sv cl wt fr).lookup ("busy_with" : Str) = none := by kernel_rfl
theorem mU_event (s p bg cg sv cl wt : Addr) (fr : Int) : (ufs s p bg cg sv cl wt fr).lookup ("event" : Str) = none := by kernel_rfl
/-- what of a run does not change but by serving: to be read -/
structure Rv (K : PySem.W.Frag) (H : Hp) (u s p bg cg : Addr) (S : Sc) (chg : List Int) (fr : Int) : Prop where
  scene : SceneAt K H s p S
  obj : ∃ dx sv cl wt, H u = some (.ins (cU K) dx (ufs s p bg cg sv cl wt fr))
  hbg : H bg = some (.lst (S.ss.map V.int))
  hcg : H cg = some (.lst (chg.map V.int))
theorem Rv.mono {H H' : Hp} {u s p bg cg : Addr} {S : Sc} {chg : List Int} {fr : Int} (e : Same H H') (h : Rv K H u s p bg cg S chg fr) : Rv K H' u s p bg cg S chg fr := by
  obtain ⟨dx, sv, cl, wt, h1⟩ := h.obj
  exact ⟨h.scene.mono e, ⟨dx, sv, cl, wt, e _ _ h1⟩, e _ _ h.hbg, e _ _ h.hcg⟩
theorem Rv.md {H : Hp} {u s p bg cg : Addr} {S : Sc} {chg : List Int} {fr : Int} {m : Str} (h : Rv K H u s p bg cg S chg fr) (hm : ∀ s p bg cg sv cl wt fr, (ufs s p bg cg sv cl wt fr).lookup m = none) : Md H (.ref u) (cU K) m := by
  obtain ⟨dx, sv, cl, wt, h1⟩ := h.obj
  exact ⟨u, dx, _, rfl, h1, hm ..⟩
theorem Rv.fscene {H : Hp} {u s p bg cg : Addr} {S : Sc} {chg : List Int} {fr : Int} (h : Rv K H u s p bg cg S chg fr) (T : Txt K mg) : Fd K H (.ref u) "its_scene" (.ref s) := by
  obtain ⟨dx, sv, cl, wt, h1⟩ := h.obj
  exact ⟨u, _, dx, _, rfl, h1, T.clU, T.nU_its_scene, ufs_scene ..⟩
theorem Rv.fpat {H : Hp} {u s p bg cg : Addr} {S : Sc} {chg : List Int} {fr : Int} (h : Rv K H u s p bg cg S chg fr) (T : Txt K mg) : Fd K H (.ref u) "pattern" (.ref p) := by
  obtain ⟨dx, sv, cl, wt, h1⟩ := h.obj
  exact ⟨u, _, dx, _, rfl, h1, T.clU, T.nU_pattern, ufs_pattern ..⟩
theorem Rv.fbeg {H : Hp} {u s p bg cg : Addr} {S : Sc} {chg : List Int} {fr : Int} (h : Rv K H u s p bg cg S chg fr) (T : Txt K mg) : Fd K H (.ref u) "begins" (.ref bg) := by
  obtain ⟨dx, sv, cl, wt, h1⟩ := h.obj
  exact ⟨u, _, dx, _, rfl, h1, T.clU, T.nU_begins, ufs_begins ..⟩
theorem Rv.fchg {H : Hp} {u s p bg cg : Addr} {S : Sc} {chg : List Int} {fr : Int} (h : Rv K H u s p bg cg S chg fr) (T : Txt K mg) : Fd K H (.ref u) "changes" (.ref cg) := by
  obtain ⟨dx, sv, cl, wt, h1⟩ := h.obj
  exact ⟨u, _, dx, _, rfl, h1, T.clU, T.nU_changes, ufs_changes ..⟩
theorem Rv.ffree {H : Hp} {u s p bg cg : Addr} {S : Sc} {chg : List Int} {fr : Int} (h : Rv K H u s p bg cg S chg fr) (T : Txt K mg) : Fd K H (.ref u) "free_from" (.int fr) := by
  obtain ⟨dx, sv, cl, wt, h1⟩ := h.obj
  exact ⟨u, _, dx, _, rfl, h1, T.clU, T.nU_free_from, ufs_free ..⟩
def failTo (S : Sc) (fr t : Int) : Int := if t < fr then fr else if S.out t = true then S.ob else t
def sp_Run_failing_until (K : PySem.W.Frag) : Sp := fun vs H Q _ => ∃ (u s p bg cg : Addr) (S : Sc) (chg : List Int) (fr t : Int), vs = [.ref u, .int t] ∧ Rv K H u s p bg cg S chg fr ∧ ∀ H', Same H H' → Q (.int (failTo S fr t)) H'
theorem sc_Run_failing_until : FnScope ["self", "slot", "at"] ["self", "slot"] (defScope s_Run_failing_until) := ⟨rfl, rfl, rfl, by decide +kernel, rfl, by decide +kernel, by decide +kernel⟩
theorem ok_Run_failing_until {f : Addr} {fd : FuncData} (F : FunD K "failing_until" "Run.failing_until" (defArgs s_Run_failing_until) (defBody s_Run_failing_until) (defScope s_Run_failing_until) [] [] f fd) (T : Txt K mg) (c_S_outage_at : C8.Met P w K mg base 2 (cS K) "outage_at" (sp_Scene_outage_at K) []) (c_S_outages : C8.Met P w K mg base 1 (cS K) "outages" (sp_Scene_outages K) []) :
    FnOk P w K mg base CX0 3 f fd ["self", "slot"] (sp_Run_failing_until K) := by
  refine F.ok sc_Run_failing_until (fun vs H Q E h => ?_) (fun cdv A outer s H vs Q E hr h => ?_)
  · obtain ⟨_, _, _, _, _, _, _, _, _, rfl, _⟩ := h
    rfl
  · have hu := hu_of hr
    obtain ⟨u, s, p, bg, cg, S, chg, fr, t, rfl, hU, k⟩ := h
    refine ⟨_, PSs.nox ((pss_cons (ps_if (pt_cmpR op_lt (pv 1) (pe_f (pv 0)) (nomark _)) (pss_one (ps_ret (pe_f (pv 0)))) pss_nil)
      (pss_cons (ps_set (i := 2) sc_Run_failing_until.nd rfl (by first | exact Or.inl rfl | exact Or.inr rfl) (pe_m c_S_outage_at hr (by decide) (pe_f (pv 0)) (pa_cons (pv 1) pa_nil)))
      (pss_one (ps_ret (pe_ifExp (pt_cmpR op_isN (pv 2) pe_non (nomark _)) (pv 1) (pe_ix ix_tup (pe_ix ix_list (pe_m0 c_S_outages hr (by decide) (pe_f (pv 0))) (pv 2) (fun _ _ => rfl)) pe_int (fun _ _ => rfl)))))))), ?_⟩
    refine ⟨_, rfl, _, rfl, _, hU.ffree T, _, _, rfl, rfl, _, rfl, ?_⟩
    unfold failTo at k
    refine ite2 (fun hc => ?_) (fun hc => ?_)
    · rw [if_pos (of_decide_eq_true hc)] at k
      exact ⟨_, rfl, _, hU.ffree T, k _ (Same.refl _)⟩
    rw [if_neg fun z => hc (decide_eq_true z)] at k
    refine ⟨_, rfl, _, hU.fscene T, hU.scene.md mS_outage_at, _, rfl, s, p, S, t, rfl, hU.scene, fun H1 s1 => ?_⟩
    unfold Sc.outV
    cases e : S.out t with
    | false =>
      rw [e, if_neg (by decide)] at k
      refine ⟨_, rfl, rfl, true, rfl, iteT ⟨_, rfl, k _ s1⟩⟩
    | true =>
      rw [e, if_pos rfl] at k
      have hU1 := hU.mono s1
      refine ⟨_, rfl, rfl, false, rfl, iteF ?_⟩
      refine ⟨_, rfl, _, hU1.fscene T, hU1.scene.md mS_outages, s, p, S, rfl, hU1.scene, fun l q hl hq => ?_⟩
      have s2 : Same H1 (upd H1 l (.lst [.ref q])) := same_new hl
      exact ⟨_, rfl, l, _, _, _, rfl, rfl, SqL.of upd_same, rfl, q, _, _, _, rfl, rfl, SqT.of (s2 _ _ hq), rfl, k _ (s1.trans s2)⟩
def sp_Run_latest_moment (K : PySem.W.Frag) : Sp := fun vs H Q _ => ∃ (u s p bg cg : Addr) (S : Sc) (chg : List Int) (fr t : Int), vs = [.ref u, .int t] ∧ Rv K H u s p bg cg S chg fr ∧ (∃ y ∈ chg, y ≤ t) ∧ chg.length ≤ 40 ∧ ∀ H' y, Same H H' → Lat chg fr t y → Q (.int y) H'
theorem sc_Run_latest_moment : FnScope ["self", "slot", "moment"] ["self", "slot"] (defScope s_Run_latest_moment) := ⟨rfl, rfl, rfl, by decide +kernel, rfl, by decide +kernel, by decide +kernel⟩
theorem ok_Run_latest_moment {f : Addr} {fd : FuncData} (F : FunD K "latest_moment" "Run.latest_moment" (defArgs s_Run_latest_moment) (defBody s_Run_latest_moment) (defScope s_Run_latest_moment) [] [] f fd) (T : Txt K mg)  :
    FnOk P w K mg base CX0 1 f fd ["self", "slot"] (sp_Run_latest_moment K) := by
  refine F.ok sc_Run_latest_moment (fun vs H Q E h => ?_) (fun cdv A outer s H vs Q E hr h => ?_)
  · obtain ⟨_, _, _, _, _, _, _, _, _, rfl, _⟩ := h
    rfl
  · have hu := hu_of hr
    obtain ⟨u, s, p, bg, cg, S, chg, fr, t, rfl, hU, hex, h40, k⟩ := h
    refine ⟨_, PSs.nox ((pss_one (ps_ret (pe_callB (cr_max rfl) (by rfl) T.f_max (by decide +kernel) (pa_cons (pe_lc (own := [("moment", 2)]) (g := (gName 2)) rfl sc_Run_latest_moment.nd (pi_list (pe_op op_cat (pe_f (pv 0)) (pe_lst (pa_cons (pe_f (pv 0)) pa_nil)))) (blkOk_by (own := [("moment", 2)]) (N := ["self", "slot", "moment"]) (sc := defScope s_Run_latest_moment) (by decide +kernel)) (fun _ _ _ _ _ => (pg_name (i := 2) sc_Run_latest_moment.nd rfl (by first | exact Or.inl rfl | exact Or.inr rfl))) (fun _ _ _ _ _ => (pts_one (pt_cmpR op_le (pv 2) (pv 1) (nomark _)))) (fun _ _ _ _ _ => (pv 2))) pa_nil))))), ?_⟩
    refine ⟨_, rfl, _, hU.fchg T, _, rfl, _, hU.ffree T, by show 1 ≤ sizeLine; decide, fun l hl => ?_⟩
    have s1 : Same H (upd H l (.lst [.int fr])) := same_new hl
    refine ⟨cg, l, _, _, rfl, rfl, s1 _ _ hU.hcg, upd_same, szL (by show (chg.map V.int).length + 1 ≤ _; rw [List.length_map]; omega), fun c hc => ?_⟩
    have s2 := s1.trans (same_new (o := .lst (chg.map V.int ++ [.int fr])) hc)
    have hcat : chg.map V.int ++ [V.int fr] = (chg ++ [fr]).map V.int := by rw [List.map_append]; rfl
    refine ⟨c, rfl, ⟨_, SqL.of upd_same⟩, fun D hD => lc_pure (walk_list (K := K) (a := c) (xs := chg.map V.int ++ [.int fr])) (fun i => decide ((chg ++ [fr]).getD i 0 ≤ t)) (fun i y _ => y = .int ((chg ++ [fr]).getD i 0)) (fun _ _ _ _ _ h => h) hD (by rw [List.length_append, List.length_map]; show chg.length + 1 < _; omega) (fun H1 e => e.seq (SqL.of upd_same)) ?_ ?_⟩
    · rintro i x H1 H2 Ky Kn hi s3 ⟨rfl, hx⟩ hy hn
      rw [hcat, List.getElem?_map] at hx
      obtain ⟨z, hz, rfl⟩ := Option.map_eq_some_iff.mp hx
      have hgd : (chg ++ [fr]).getD i 0 = z := by rw [List.getD_eq_getElem?_getD, hz]; rfl
      rw [hgd] at hy hn
      refine ⟨rfl, ?_⟩
      refine ⟨_, rfl, _, rfl, _, _, rfl, rfl, _, rfl, ite2 (fun hc => ?_) (fun hc => ?_)⟩
      · exact ⟨_, rfl, hy hc _ _ rfl (Same.refl _)⟩
      · exact hn (by simpa using hc) _ (Same.refl _)
    · intro H1 acc s3 hD1 hm
      have hacc := Made.fn (H := H1) (f := fun i => V.int ((chg ++ [fr]).getD i 0)) hm
      have elen : (chg.map V.int ++ [V.int fr]).length = (chg ++ [fr]).length := by rw [hcat, List.length_map]
      rw [elen] at hacc
      have hacc2 : acc = ((chg ++ [fr]).filter fun z => decide (z ≤ t)).map V.int := by
        rw [← filter_range (0 : Int) (fun z => decide (z ≤ t)), List.map_map]
        exact hacc
      have hmem : ∀ z, z ∈ (chg ++ [fr]).filter (fun z => decide (z ≤ t)) ↔ (z ∈ chg ∨ z = fr) ∧ z ≤ t := fun z => by
        rw [List.mem_filter, List.mem_append, List.mem_singleton, decide_eq_true_iff]
      refine ⟨D, _, rfl, by rw [← hacc2]; exact SqL.of hD1, ?_, fun y hy1 hy2 => k _ _ (s2.trans s3) ?_⟩
      · obtain ⟨y, hy, hy2⟩ := hex
        exact List.length_pos_iff.mpr (List.ne_nil_of_mem ((hmem y).mpr ⟨.inl hy, hy2⟩))
      · obtain ⟨g1, g2⟩ := (hmem y).mp hy1
        exact ⟨g1, g2, fun z hz hz2 => hy2 z ((hmem z).mpr ⟨hz, hz2⟩)⟩
def sp_Run_is_repeated (K : PySem.W.Frag) : Sp := fun vs H Q _ => ∃ (u s p bg cg : Addr) (S : Sc) (chg : List Int) (fr t : Int), vs = [.ref u, .int t] ∧ Rv K H u s p bg cg S chg fr ∧ (∃ y ∈ chg, y ≤ t) ∧ chg.length ≤ 40 ∧
  ∀ H' b, Same H H' → (b = true → ∃ m y, S.R.t = .rep m ∧ Lat chg fr t y ∧ S.R.per m < t - y) → (b = false → ∀ m, S.R.t = .rep m → ∃ y, Lat chg fr t y ∧ t - y ≤ S.R.per m) → Q (.bl b) H'
theorem sc_Run_is_repeated : FnScope ["self", "slot", "period"] ["self", "slot"] (defScope s_Run_is_repeated) := ⟨rfl, rfl, rfl, by decide +kernel, rfl, by decide +kernel, by decide +kernel⟩
theorem ok_Run_is_repeated {f : Addr} {fd : FuncData} (F : FunD K "is_repeated" "Run.is_repeated" (defArgs s_Run_is_repeated) (defBody s_Run_is_repeated) (defScope s_Run_is_repeated) [] [] f fd) (T : Txt K mg) (c_R_period : C8.Met P w K mg base 1 (cR K) "period" (sp_Rule_period K) []) (c_U_latest_moment : C8.Met P w K mg base 1 (cU K) "latest_moment" (sp_Run_latest_moment K) []) :
    FnOk P w K mg base CX0 2 f fd ["self", "slot"] (sp_Run_is_repeated K) := by
  refine F.ok sc_Run_is_repeated (fun vs H Q E h => ?_) (fun cdv A outer s H vs Q E hr h => ?_)
  · obtain ⟨_, _, _, _, _, _, _, _, _, rfl, _⟩ := h
    rfl
  · have hu := hu_of hr
    obtain ⟨u, s, p, bg, cg, S, chg, fr, t, rfl, hU, hex, h40, k⟩ := h
    refine ⟨_, PSs.nox ((pss_cons (ps_set (i := 2) sc_Run_is_repeated.nd rfl (by first | exact Or.inl rfl | exact Or.inr rfl) (pe_m0 c_R_period hr (by decide) (pe_f (pv 0))))
      (pss_one (ps_ret (pe_and (pe_cmpR op_notN (pv 2) pe_non (nomark _)) (pe_one (pe_cmpR op_gt (pe_op op_sub (pv 1) (pe_m c_U_latest_moment hr (by decide) (pv 0) (pa_cons (pv 1) pa_nil))) (pv 2) (nomark _)))))))), ?_⟩
    refine ⟨_, rfl, _, hU.fpat T, hU.scene.rule.md mR_period, p, S.R, rfl, hU.scene.rule, ?_⟩
    unfold Ru.perV
    cases e : S.R.t with
    | fin => exact ⟨_, rfl, rfl, false, rfl, iteF (k H false (Same.refl _) (fun z => by cases z) fun _ m z => by rw [e] at z; cases z)⟩
    | tim b => exact ⟨_, rfl, rfl, false, rfl, iteF (k H false (Same.refl _) (fun z => by cases z) fun _ m z => by rw [e] at z; cases z)⟩
    | rep m =>
      refine ⟨_, rfl, rfl, true, rfl, iteT ?_⟩
      refine ⟨_, rfl, _, rfl, hU.md mU_latest_moment, _, rfl, u, s, p, bg, cg, S, chg, fr, t, rfl, hU, hex, h40, fun H1 y s1 hl => ⟨_, _, rfl, rfl, _, rfl, _, _, rfl, rfl, ?_⟩⟩
      refine k H1 _ s1 (fun hc => ⟨m, y, e, hl, of_decide_eq_true hc⟩) fun hc m' e' => ?_
      rw [e] at e'
      cases e'
      have := of_decide_eq_false hc
      exact ⟨y, hl, by omega⟩
end
end My
set_option Elab.async false
set_option linter.all false
set_option maxRecDepth 100000
set_option maxHeartbeats 4000000
namespace My
open PySem PySem.Spec PyProof.Rows L2
section
variable {P : Program} {w : World} {K : PySem.W.Frag} {mg : Str → Option Value} {base : Heap}
/-! ### a run that changes -/
def wkv (q : Nat × Nat) : Key × V := (.inl (q.1 : Int), .int (q.2 : Int))
def SvG (H : Hp) (kv : Key × V) (z : Nat × Nat × Int) : Prop := ∃ t, kv = (.inl (z.1 : Int), .ref t) ∧ H t = some (.tup [.int (z.2.1 : Nat), .int z.2.2])
def dropW2 (w : List (Nat × Nat)) (c : Nat) : List (Nat × Nat) := w.filter fun q => decide (q.1 ≠ c)
def putW2 (w : List (Nat × Nat)) (c a : Nat) : List (Nat × Nat) := w.map fun q => if q.1 = c then (q.1, a) else q
theorem inl_nat {a b : Nat} : (Sum.inl (a : Int) : Key) = Sum.inl (b : Int) ↔ a = b := ⟨fun e => Int.ofNat.inj (Sum.inl.inj e), fun e => by rw [e]⟩
theorem wkv_get : ∀ {w : List (Nat × Nat)} {c a : Nat}, (w.map (·.1)).Nodup → (c, a) ∈ w → valV (w.map wkv) (.inl (c : Int)) = some (.int (a : Int))
  | q :: w, c, a, nd, h => by
    rw [List.map_cons, List.nodup_cons] at nd
    rw [List.map_cons]
    rcases List.mem_cons.mp h with e | h
    · subst e
      exact valV_pos (p := wkv (c, a)) rfl
    · rw [valV_neg (p := wkv q) (fun e => nd.1 (by
        have : q.1 = c := inl_nat.mp e
        rw [this]
        exact List.mem_map_of_mem (f := (·.1)) h))]
      exact wkv_get nd.2 h
theorem wkv_drop : ∀ (w : List (Nat × Nat)) (c : Nat), dropK (w.map wkv) (.inl (c : Int)) = (dropW2 w c).map wkv
  | [], _ => rfl
  | q :: w, c => by
    have ih := wkv_drop w c
    unfold dropK dropW2 at *
    rw [List.map_cons, List.filter_cons, List.filter_cons]
    by_cases e : q.1 = c
    · rw [if_neg (by simpa using (show (wkv q).1 = .inl (c : Int) from inl_nat.mpr e)), if_neg (by simpa using e)]
      exact ih
    · rw [if_pos (by simpa using (show ¬ (wkv q).1 = .inl (c : Int) from fun z => e (inl_nat.mp z))), if_pos (by simpa using e), List.map_cons, ih]
theorem wkv_put {w : List (Nat × Nat)} {c : Nat} (h : c ∈ w.map (·.1)) (a : Nat) : putK (w.map wkv) (.inl (c : Int)) (.int (a : Int)) = (putW2 w c a).map wkv := by
  have hany : ((w.map wkv).any fun kv => decide (kv.1 = .inl (c : Int))) = true := by
    obtain ⟨q, hq, e⟩ := List.mem_map.mp h
    exact List.any_eq_true.mpr ⟨wkv q, List.mem_map_of_mem hq, decide_eq_true (inl_nat.mpr e)⟩
  unfold putK putW2
  rw [if_pos hany, List.map_map, List.map_map]
  congr 1
  funext q
  show (if (wkv q).1 = .inl (c : Int) then ((wkv q).1, V.int (a : Int)) else wkv q) = wkv (if q.1 = c then (q.1, a) else q)
  by_cases e : q.1 = c
  · rw [if_pos e, if_pos (show (wkv q).1 = .inl (c : Int) from inl_nat.mpr e)]
    rfl
  · rw [if_neg e, if_neg (show ¬ (wkv q).1 = .inl (c : Int) from fun z => e (inl_nat.mp z))]
theorem fm_congr {α β : Type} {f g : α → Option β} : ∀ {l : List α}, (∀ x ∈ l, f x = g x) → l.filterMap f = l.filterMap g
  | [], _ => rfl
  | x :: l, h => by
    rw [List.filterMap_cons, List.filterMap_cons, h x (List.mem_cons_self ..), fm_congr fun y hy => h y (List.mem_cons_of_mem _ hy)]
/-- f done at the clients of a list -/
def part (f : Nat × Nat → Option (Nat × Nat)) (done : List Nat) (w : List (Nat × Nat)) : List (Nat × Nat) := w.filterMap fun q => if q.1 ∈ done then f q else some q
theorem part_nil (f : Nat × Nat → Option (Nat × Nat)) (w : List (Nat × Nat)) : part f [] w = w := by
  unfold part
  rw [fm_congr (g := some) fun q _ => if_neg List.not_mem_nil, List.filterMap_some]
theorem part_keys {f : Nat × Nat → Option (Nat × Nat)} (hf : ∀ q p, f q = some p → p.1 = q.1) (done : List Nat) (w : List (Nat × Nat)) : ((part f done w).map (·.1)).Sublist (w.map (·.1)) := filterMap_keys fun q p h => by
  split at h
  · exact hf q p h
  · cases h; rfl
theorem part_get {f : Nat × Nat → Option (Nat × Nat)} {done : List Nat} {w : List (Nat × Nat)} {c a : Nat} (h : (c, a) ∈ w) (hc : c ∉ done) : (c, a) ∈ part f done w := List.mem_filterMap.mpr ⟨(c, a), h, if_neg hc⟩
theorem part_drop {f : Nat × Nat → Option (Nat × Nat)} (hf : ∀ q p, f q = some p → p.1 = q.1) {done : List Nat} {w : List (Nat × Nat)} {c a : Nat} (nd : (w.map (·.1)).Nodup) (h : (c, a) ∈ w) (hc : c ∉ done) (e : f (c, a) = none) : dropW2 (part f done w) c = part f (done ++ [c]) w := by
  unfold dropW2 part
  rw [List.filter_filterMap]
  refine fm_congr fun q hq => ?_
  by_cases h1 : q.1 = c
  · have h2 : q = (c, a) := nodup_inj nd hq h h1
    subst h2
    rw [if_neg hc, if_pos (List.mem_append_right _ (List.mem_singleton.mpr rfl)), e]
    simp
  · by_cases h2 : q.1 ∈ done
    · rw [if_pos h2, if_pos (List.mem_append_left _ h2)]
      cases e2 : f q with
      | none => rfl
      | some p =>
        have := hf q p e2
        simp [this, h1]
    · rw [if_neg h2, if_neg (by simp [h1, h2])]
      simp [h1]
theorem part_put {f : Nat × Nat → Option (Nat × Nat)} (hf : ∀ q p, f q = some p → p.1 = q.1) {done : List Nat} {w : List (Nat × Nat)} {c a a' : Nat} (nd : (w.map (·.1)).Nodup) (h : (c, a) ∈ w) (hc : c ∉ done) (e : f (c, a) = some (c, a')) : putW2 (part f done w) c a' = part f (done ++ [c]) w := by
  unfold putW2 part
  rw [List.map_filterMap]
  refine fm_congr fun q hq => ?_
  by_cases h1 : q.1 = c
  · have h2 : q = (c, a) := nodup_inj nd hq h h1
    subst h2
    rw [if_neg hc, if_pos (List.mem_append_right _ (List.mem_singleton.mpr rfl)), e]
    simp
  · by_cases h2 : q.1 ∈ done
    · rw [if_pos h2, if_pos (List.mem_append_left _ h2)]
      cases e2 : f q with
      | none => rfl
      | some p =>
        have := hf q p e2
        simp [this, h1]
    · rw [if_neg h2, if_neg (by simp [h1, h2])]
      simp [h1]
theorem put_keys (w : List (Nat × Nat)) (c a : Nat) : (putW2 w c a).map (·.1) = w.map (·.1) := by
  unfold putW2
  rw [List.map_map]
  congr 1
  funext q
  show (if q.1 = c then (q.1, a) else q).1 = q.1
  split <;> rfl
theorem put_mem {w : List (Nat × Nat)} {c a a' : Nat} (h : (c, a) ∈ w) : (c, a') ∈ putW2 w c a' := List.mem_map.mpr ⟨(c, a), h, if_pos rfl⟩
theorem drop_put (w : List (Nat × Nat)) (c a : Nat) : dropW2 (putW2 w c a) c = dropW2 w c := by
  unfold dropW2 putW2
  rw [List.filter_map]
  have e : ((fun q : Nat × Nat => decide (q.1 ≠ c)) ∘ fun q => if q.1 = c then (q.1, a) else q) = fun q => decide (q.1 ≠ c) := by
    funext q
    show decide ((if q.1 = c then (q.1, a) else q).1 ≠ c) = _
    split <;> rfl
  rw [e]
  conv => rhs; rw [← List.map_id (w.filter _)]
  refine List.map_congr_left fun q hq => ?_
  have := (List.mem_filter.mp hq).2
  simp at this
  rw [if_neg this]
  rfl
theorem putK_lenN (w : List (Nat × Nat)) (c a : Nat) : (putW2 w c a).length = w.length := List.length_map ..
structure RunX (K : PySem.W.Frag) (H0 H : Hp) (u s p bg cg sv cl wt : Addr) (S : Sc) (chg : List Int) (st : RSt) : Prop where
  same : Same H0 H
  scene : SceneAt K H0 s p S
  hbg : H0 bg = some (.lst (S.ss.map V.int))
  hcg : H0 cg = some (.lst (chg.map V.int))
  obj : ∃ dx, H u = some (.ins (cU K) dx (ufs s p bg cg sv cl wt st.free))
  u0 : H0 u = none
  sv0 : H0 sv = none
  cl0 : H0 cl = none
  wt0 : H0 wt = none
  hsv : ∃ svk, H sv = some (.dK svk) ∧ Paired (SvG H) svk st.serv
  hcl : ∃ clk : List (Key × V), H cl = some (.dK clk) ∧ clk.map (·.1) = st.closed.map fun c : Nat => (Sum.inl (c : Int) : Key)
  hwt : H wt = some (.dK (st.wait.map wkv))
  n1 : sv ≠ cl
  n2 : sv ≠ wt
  n3 : cl ≠ wt
theorem RunX.rv {H0 H : Hp} {u s p bg cg sv cl wt : Addr} {S : Sc} {chg : List Int} {st : RSt} (h : RunX K H0 H u s p bg cg sv cl wt S chg st) : Rv K H u s p bg cg S chg st.free := by
  obtain ⟨dx, h1⟩ := h.obj
  exact ⟨h.scene.mono h.same, ⟨dx, sv, cl, wt, h1⟩, h.same _ _ h.hbg, h.same _ _ h.hcg⟩
theorem SvG.mono {H H' : Hp} {kv : Key × V} {z : Nat × Nat × Int} (e : ∀ t xs, H t = some (.tup xs) → H' t = some (.tup xs)) (h : SvG H kv z) : SvG H' kv z := by
  obtain ⟨t, h1, h2⟩ := h
  exact ⟨t, h1, e _ _ h2⟩
theorem RunX.mono {H0 H H' : Hp} {u s p bg cg sv cl wt : Addr} {S : Sc} {chg : List Int} {st : RSt} (e : Same H H') (h : RunX K H0 H u s p bg cg sv cl wt S chg st) : RunX K H0 H' u s p bg cg sv cl wt S chg st := by
  obtain ⟨dx, h1⟩ := h.obj
  obtain ⟨svk, h2, h3⟩ := h.hsv
  obtain ⟨clk, h4, h5⟩ := h.hcl
  exact ⟨h.same.trans e, h.scene, h.hbg, h.hcg, ⟨dx, e _ _ h1⟩, h.u0, h.sv0, h.cl0, h.wt0, ⟨svk, e _ _ h2, L2.Paired.mapP h3 fun _ _ => SvG.mono fun t xs q => e _ _ q⟩, ⟨clk, e _ _ h4, h5⟩, e _ _ h.hwt, h.n1, h.n2, h.n3⟩
theorem RunX.weaken {H0 Hb H : Hp} {u s p bg cg sv cl wt : Addr} {S : Sc} {chg : List Int} {st : RSt} (e : Same H0 Hb) (hs : SceneAt K H0 s p S) (hbg : H0 bg = some (.lst (S.ss.map V.int))) (hcg : H0 cg = some (.lst (chg.map V.int))) (h : RunX K Hb H u s p bg cg sv cl wt S chg st) : RunX K H0 H u s p bg cg sv cl wt S chg st :=
  ⟨e.trans h.same, hs, hbg, hcg, h.obj, same_mem e h.u0, same_mem e h.sv0, same_mem e h.cl0, same_mem e h.wt0, h.hsv, h.hcl, h.hwt, h.n1, h.n2, h.n3⟩
/-- one of its dicts changes -/
theorem RunX.changed {H0 H : Hp} {u s p bg cg sv cl wt : Addr} {S : Sc} {chg : List Int} {st st' : RSt} (h : RunX K H0 H u s p bg cg sv cl wt S chg st) {d : Addr} {kvs kvs' : List (Key × V)} (hd : H d = some (.dK kvs)) (hd0 : H0 d = none) (hf : st'.free = st.free)
    (hsv : ∃ svk, (upd H d (.dK kvs')) sv = some (.dK svk) ∧ Paired (SvG H) svk st'.serv)
    (hcl : ∃ clk : List (Key × V), (upd H d (.dK kvs')) cl = some (.dK clk) ∧ clk.map (·.1) = st'.closed.map fun c : Nat => (Sum.inl (c : Int) : Key))
    (hwt : (upd H d (.dK kvs')) wt = some (.dK (st'.wait.map wkv))) : RunX K H0 (upd H d (.dK kvs')) u s p bg cg sv cl wt S chg st' := by
  obtain ⟨dx, h1⟩ := h.obj
  obtain ⟨svk, g1, g2⟩ := hsv
  refine ⟨same_mu h.same hd0, h.scene, h.hbg, h.hcg, ⟨dx, ?_⟩, h.u0, h.sv0, h.cl0, h.wt0, ⟨svk, g1, L2.Paired.mapP g2 fun _ _ => SvG.mono fun t xs q => ?_⟩, hcl, hwt, h.n1, h.n2, h.n3⟩
  · rw [upd_ne (ne_of h1 hd (by intro z; cases z)), hf]; exact h1
  · rw [upd_ne (ne_of q hd (by intro z; cases z))]; exact q
theorem RunX.setW {H0 H : Hp} {u s p bg cg sv cl wt : Addr} {S : Sc} {chg : List Int} {st : RSt} (h : RunX K H0 H u s p bg cg sv cl wt S chg st) (w : List (Nat × Nat)) : RunX K H0 (upd H wt (.dK (w.map wkv))) u s p bg cg sv cl wt S chg { st with wait := w } := by
  obtain ⟨svk, h2, h3⟩ := h.hsv
  obtain ⟨clk, h4, h5⟩ := h.hcl
  refine h.changed (st' := { st with wait := w }) h.hwt h.wt0 rfl ⟨svk, ?_, h3⟩ ⟨clk, ?_, h5⟩ upd_same
  · rw [upd_ne h.n2]; exact h2
  · rw [upd_ne h.n3]; exact h4
theorem RunX.setC {H0 H : Hp} {u s p bg cg sv cl wt : Addr} {S : Sc} {chg : List Int} {st : RSt} (h : RunX K H0 H u s p bg cg sv cl wt S chg st) {clk : List (Key × V)} (hc : H cl = some (.dK clk)) {clk' : List (Key × V)} {c : List Nat} (hk : clk'.map (·.1) = c.map fun c : Nat => (Sum.inl (c : Int) : Key)) :
    RunX K H0 (upd H cl (.dK clk')) u s p bg cg sv cl wt S chg { st with closed := c } := by
  obtain ⟨svk, h2, h3⟩ := h.hsv
  refine h.changed (st' := { st with closed := c }) hc h.cl0 rfl ⟨svk, ?_, h3⟩ ⟨clk', upd_same, hk⟩ ?_
  · rw [upd_ne h.n1]; exact h2
  · rw [upd_ne h.n3.symm]; exact h.hwt
theorem RunX.setS {H0 H : Hp} {u s p bg cg sv cl wt : Addr} {S : Sc} {chg : List Int} {st : RSt} (h : RunX K H0 H u s p bg cg sv cl wt S chg st) {svk svk' : List (Key × V)} (hv : H sv = some (.dK svk)) {z : List (Nat × Nat × Int)} (hk : Paired (SvG H) svk' z) :
    RunX K H0 (upd H sv (.dK svk')) u s p bg cg sv cl wt S chg { st with serv := z } := by
  obtain ⟨clk, h4, h5⟩ := h.hcl
  refine h.changed (st' := { st with serv := z }) hv h.sv0 rfl ⟨svk', upd_same, hk⟩ ⟨clk, ?_, h5⟩ ?_
  · rw [upd_ne h.n1.symm]; exact h4
  · rw [upd_ne h.n2.symm]; exact h.hwt
theorem RunX.setF {H0 H : Hp} {u s p bg cg sv cl wt : Addr} {S : Sc} {chg : List Int} {st : RSt} (h : RunX K H0 H u s p bg cg sv cl wt S chg st) {dx : Addr} (hu : H u = some (.ins (cU K) dx (ufs s p bg cg sv cl wt st.free))) (fr : Int) :
    RunX K H0 (upd H u (.ins (cU K) dx (ufs s p bg cg sv cl wt fr))) u s p bg cg sv cl wt S chg { st with free := fr } := by
  obtain ⟨svk, h2, h3⟩ := h.hsv
  obtain ⟨clk, h4, h5⟩ := h.hcl
  have nd : ∀ {b : Addr} {kvs : List (Key × V)}, H b = some (.dK kvs) → b ≠ u := fun q => ne_of q hu (by intro z; cases z)
  refine ⟨same_mu h.same h.u0, h.scene, h.hbg, h.hcg, ⟨dx, upd_same⟩, h.u0, h.sv0, h.cl0, h.wt0, ⟨svk, ?_, L2.Paired.mapP h3 fun _ _ => SvG.mono fun t xs q => ?_⟩, ⟨clk, ?_, h5⟩, ?_, h.n1, h.n2, h.n3⟩
  · rw [upd_ne (nd h2)]; exact h2
  · rw [upd_ne (ne_of q hu (by intro z; cases z))]; exact q
  · rw [upd_ne (nd h4)]; exact h4
  · rw [upd_ne (nd h.hwt)]; exact h.hwt
/-- an object that is none of its own, new -/
theorem RunX.chg {H0 H : Hp} {u s p bg cg sv cl wt : Addr} {S : Sc} {chg : List Int} {st : RSt} (h : RunX K H0 H u s p bg cg sv cl wt S chg st) {l : Addr} {o : HO} (hl : H l = none) : RunX K (upd H0 l o) (upd H l o) u s p bg cg sv cl wt S chg st := by
  have e : Same H (upd H l o) := same_new hl
  have h2 := h.mono e
  have e0 : Same H0 (upd H0 l o) := same_new (same_mem h.same hl)
  have nn : ∀ {b : Addr} {x : HO}, H b = some x → H0 b = none → upd H0 l o b = none := fun hb h0 => by rw [upd_ne (ne_of_none hb hl)]; exact h0
  obtain ⟨dx, g1⟩ := h.obj
  obtain ⟨svk, g2, g3⟩ := h.hsv
  obtain ⟨clk, g4, g5⟩ := h.hcl
  refine ⟨fun b x hb => ?_, h.scene.mono e0, e0 _ _ h.hbg, e0 _ _ h.hcg, h2.obj, nn g1 h.u0, nn g2 h.sv0, nn g4 h.cl0, nn h.hwt h.wt0, h2.hsv, h2.hcl, h2.hwt, h.n1, h.n2, h.n3⟩
  by_cases eb : b = l
  · subst eb
    rw [upd_same] at hb ⊢
    exact hb
  · rw [upd_ne eb] at hb ⊢
    exact h.same _ _ hb
theorem RunX.fsv {H0 H : Hp} {u s p bg cg sv cl wt : Addr} {S : Sc} {chg : List Int} {st : RSt} (h : RunX K H0 H u s p bg cg sv cl wt S chg st) (T : Txt K mg) : Fd K H (.ref u) "services" (.ref sv) := by
  obtain ⟨dx, h1⟩ := h.obj
  exact ⟨u, _, dx, _, rfl, h1, T.clU, T.nU_services, ufs_services ..⟩
theorem RunX.fcl {H0 H : Hp} {u s p bg cg sv cl wt : Addr} {S : Sc} {chg : List Int} {st : RSt} (h : RunX K H0 H u s p bg cg sv cl wt S chg st) (T : Txt K mg) : Fd K H (.ref u) "closed" (.ref cl) := by
  obtain ⟨dx, h1⟩ := h.obj
  exact ⟨u, _, dx, _, rfl, h1, T.clU, T.nU_closed, ufs_closed ..⟩
theorem RunX.fwt {H0 H : Hp} {u s p bg cg sv cl wt : Addr} {S : Sc} {chg : List Int} {st : RSt} (h : RunX K H0 H u s p bg cg sv cl wt S chg st) (T : Txt K mg) : Fd K H (.ref u) "waiting" (.ref wt) := by
  obtain ⟨dx, h1⟩ := h.obj
  exact ⟨u, _, dx, _, rfl, h1, T.clU, T.nU_waiting, ufs_waiting ..⟩
def sp_Run_skip_to (K : PySem.W.Frag) : Sp := fun vs H Q _ => ∃ (u s p bg cg sv cl wt : Addr) (S : Sc) (chg : List Int) (st : RSt) (H0 : Hp) (e : Int), vs = [.ref u, .int e] ∧ RunX K H0 H u s p bg cg sv cl wt S chg st ∧ (st.wait.map (·.1)).Nodup ∧ (∀ q ∈ st.wait, q.1 < S.ss.length) ∧ st.wait.length ≤ 6 ∧
  (∀ q ∈ st.wait, ∀ b, S.R.t = .tim b → e - S.at q.1 ≤ 2 ^ 40) ∧ ∀ H', RunX K H0 H' u s p bg cg sv cl wt S chg (st.skip S e) → Q .non H'
theorem sc_Run_skip_to : FnScope ["self", "slot", "client", "attempt"] ["self", "slot"] (defScope s_Run_skip_to) := ⟨rfl, rfl, rfl, by decide +kernel, rfl, by decide +kernel, by decide +kernel⟩
theorem ok_Run_skip_to {f : Addr} {fd : FuncData} (F : FunD K "skip_to" "Run.skip_to" (defArgs s_Run_skip_to) (defBody s_Run_skip_to) (defScope s_Run_skip_to) [] [] f fd) (T : Txt K mg) (c_R_first_from : C8.Met P w K mg base 3 (cR K) "first_from" (sp_Rule_first_from K) []) :
    FnOk P w K mg base CX0 4 f fd ["self", "slot"] (sp_Run_skip_to K) := by
  refine F.ok sc_Run_skip_to (fun vs H Q E h => ?_) (fun cdv A outer s H vs Q E hr h => ?_)
  · obtain ⟨_, _, _, _, _, _, _, _, _, _, _, _, _, rfl, _⟩ := h
    rfl
  · have hu := hu_of hr
    obtain ⟨u, s, p, bg, cg, sv, cl, wt, S, chg, st, H0, e, rfl, hX, hnd, hlt, h6, hlim, k⟩ := h
    refine ⟨_, PSs.nox ((pss_one (ps_for PassesOwn.never rfl (pi_list (pe_callTy (call_listD rfl) (by rfl) T.f_list (by decide +kernel) (pa_cons (pe_f (pv 0)) pa_nil))) (pg_name (i := 2) sc_Run_skip_to.nd rfl (by first | exact Or.inl rfl | exact Or.inr rfl)) (pss_cons (ps_set (i := 3) sc_Run_skip_to.nd rfl (by first | exact Or.inl rfl | exact Or.inr rfl) (pe_m c_R_first_from hr (by decide) (pe_f (pv 0)) (pa_cons (pe_op op_sub (pv 1) (pe_ix ix_list (pe_f (pv 0)) (pv 2) (fun _ _ => rfl))) pa_nil)))
      (pss_one (ps_if (pt_cmpR op_isN (pv 3) pe_non (nomark _)) (pss_one (ps_expr (pe_dpop1 (pe_f (pv 0)) (pv 2) ⟨rfl, rfl, rfl, rfl⟩))) (pss_one (ps_dput hu (pe_f (pv 0)) (pv 2) (pv 3) rfl)))))))), ?_⟩
    have f_def : ∃ f : Nat × Nat → Option (Nat × Nat), f = (fun q : Nat × Nat => (S.R.first (e - S.at q.1)).map fun a => (q.1, a)) := ⟨_, rfl⟩
    obtain ⟨f, hf⟩ := f_def
    have hfk : ∀ q p, f q = some p → p.1 = q.1 := fun q p h => by
      rw [hf] at h
      obtain ⟨a, _, rfl⟩ := Option.map_eq_some_iff.mp h
      rfl
    refine ⟨_, rfl, _, hX.fwt T, wt, _, rfl, .inl hX.hwt, fun l hl => ?_⟩
    have hX1 := hX.chg (o := .lst ((st.wait.map wkv).map fun kv => kV kv.1)) hl
    have hl0 : H0 l = none := same_mem hX.same hl
    have el : ∀ i : Nat, ((st.wait.map wkv).map fun kv => kV kv.1)[i]? = (st.wait[i]?).map (fun q : Nat × Nat => V.int (q.1 : Nat)) := fun i => by
      rw [List.getElem?_map, List.getElem?_map]
      cases st.wait[i]? <;> rfl
    refine ⟨l, rfl, ⟨_, SqL.of upd_same⟩, for_list (K := K) (a := l) (xs := (st.wait.map wkv).map fun kv => kV kv.1) (fun i σ' H' => ∃ v2 v3 : Option V, σ' = [some (.ref u), some (.int e), v2, v3] ∧
      RunX K (upd H0 l (.lst ((st.wait.map wkv).map fun kv => kV kv.1))) H' u s p bg cg sv cl wt S chg { st with wait := part f ((st.wait.take i).map (·.1)) st.wait }) ?_ ?_ ?_ ?_⟩
    · refine ⟨none, none, rfl, ?_⟩
      rw [List.take_zero, List.map_nil, part_nil]
      exact hX1
    · rintro i σ' H' _ ⟨_, _, _, h⟩
      exact SqL.of (h.same _ _ upd_same)
    · rintro i x σ' H' hx ⟨v2, v3, rfl, hX2⟩
      rw [el] at hx
      obtain ⟨q, hq, rfl⟩ := Option.map_eq_some_iff.mp hx
      have hqm := List.mem_of_getElem? hq
      have hrv := hX2.rv
      have hR := hrv.scene.rule
      have hcn : q.1 ∉ (st.wait.take i).map (·.1) := fun hm => by
        obtain ⟨z, hz, hz2⟩ := List.mem_map.mp hm
        obtain ⟨j, hj⟩ := List.mem_iff_getElem?.mp hz
        rw [List.getElem?_take] at hj
        split at hj
        · rename_i hji
          obtain ⟨b1, c1⟩ := List.getElem?_eq_some_iff.mp hj
          obtain ⟨b2, c2⟩ := List.getElem?_eq_some_iff.mp hq
          have hp := List.pairwise_map.mp (List.nodup_iff_pairwise_ne.mp hnd)
          have := List.pairwise_iff_getElem.mp hp j i b1 b2 hji
          rw [c1, c2] at this
          exact this hz2
        · cases hj
      have htk : (st.wait.take (i + 1)).map (·.1) = (st.wait.take i).map (·.1) ++ [q.1] := by rw [List.take_add_one, hq, List.map_append]; rfl
      have hpm : (q.1, q.2) ∈ part f ((st.wait.take i).map (·.1)) st.wait := part_get hqm hcn
      have hpn : ((part f ((st.wait.take i).map (·.1)) st.wait).map (·.1)).Nodup := hnd.sublist (part_keys hfk _ _)
      have hplen : (part f ((st.wait.take i).map (·.1)) st.wait).length ≤ 6 := Nat.le_trans (List.length_filterMap_le _ _) h6
      refine ⟨_, rfl, _, hrv.fpat T, hR.md mR_first_from, _, rfl, _, rfl, _, hrv.fbeg T, _, rfl, bg, _, _, _, rfl, rfl, SqL.of hrv.hbg, atI_nat (ss_at (hlt q hqm)), _, _, rfl, rfl, p, S.R, _, rfl, hR, hlim q hqm, fun H2 s2 => ?_⟩
      have hX3 := hX2.mono s2
      cases ef : S.R.first (e - S.at q.1) with
      | none =>
        have efq : f (q.1, q.2) = none := by rw [hf]; show (S.R.first (e - S.at q.1)).map _ = none; rw [ef]; rfl
        refine ⟨_, rfl, rfl, true, rfl, iteT ?_⟩
        refine ⟨_, rfl, _, hX3.fwt T, wt, rfl, .inl ⟨_, .inl hX3.hwt⟩, _, rfl, _, .inl (q.1 : Int), _, hX3.hwt, rfl, wkv_get hpn hpm, ?_⟩
        rw [wkv_drop]
        refine ⟨_, _, rfl, ?_⟩
        have := hX3.setW (dropW2 (part f ((st.wait.take i).map (·.1)) st.wait) q.1)
        rw [part_drop hfk hnd hqm hcn efq, ← htk] at this
        rw [part_drop hfk hnd hqm hcn efq, ← htk]
        exact this
      | some a =>
        have efq : f (q.1, q.2) = some (q.1, a) := by rw [hf]; show (S.R.first (e - S.at q.1)).map _ = _; rw [ef]; rfl
        refine ⟨_, rfl, rfl, false, rfl, iteF ?_⟩
        refine ⟨_, rfl, _, rfl, _, hX3.fwt T, _, rfl, wt, _, rfl, .inl ⟨_, .inl (q.1 : Int), hX3.hwt, rfl, szLt (by rw [List.length_map]; show (part f ((st.wait.take i).map (·.1)) st.wait).length < _; omega), rfl⟩, ?_⟩
        have hput := wkv_put (w := part f ((st.wait.take i).map (·.1)) st.wait) (c := q.1) (List.mem_map.mpr ⟨(q.1, q.2), hpm, rfl⟩) a
        have := hX3.setW (putW2 (part f ((st.wait.take i).map (·.1)) st.wait) q.1 a)
        rw [← hput] at this
        refine ⟨_, _, rfl, ?_⟩
        rw [part_put hfk hnd hqm hcn efq, ← htk] at this
        exact this
    · rintro σ' H' ⟨v2, v3, rfl, hX2⟩
      have hpart : part f ((st.wait.take ((st.wait.map wkv).map fun kv => kV kv.1).length).map (·.1)) st.wait = (st.skip S e).wait := by
        rw [List.length_map, List.length_map, List.take_length]
        unfold part
        refine fm_congr fun q hq => ?_
        rw [if_pos (List.mem_map_of_mem hq), hf]
      rw [hpart] at hX2
      exact k H' (hX2.weaken (same_new hl0) hX.scene hX.hbg hX.hcg)
end
end My
set_option Elab.async false
set_option linter.all false
set_option maxRecDepth 100000
set_option maxHeartbeats 4000000
namespace My
open PySem PySem.Spec PyProof.Rows L2
section
variable {P : Program} {w : World} {K : PySem.W.Frag} {mg : Str → Option Value} {base : Heap}
/-! ### while a dict is walked -/
theorem RuleAt.updD {H : Hp} {p d : Addr} {R : Ru} {kvs : List (Key × V)} {o : HO} (hd : H d = some (.dK kvs)) (h : RuleAt K H p R) : RuleAt K (upd H d o) p R := by
  obtain ⟨dx, l, t, s, h1, h2, h3, h4⟩ := h.ex
  refine ⟨h.ok, dx, l, t, s, ?_, ?_, ?_, ?_⟩
  · rw [upd_ne (ne_of h1 hd (by intro z; cases z))]; exact h1
  · rw [upd_ne (ne_of h2 hd (by intro z; cases z))]; exact h2
  · rw [upd_ne (ne_of h3 hd (by intro z; cases z))]; exact h3
  · rw [upd_ne (ne_of h4 hd (by intro z; cases z))]; exact h4
theorem SceneAt.updD {H : Hp} {s p d : Addr} {S : Sc} {kvs : List (Key × V)} {o : HO} (hd : H d = some (.dK kvs)) (h : SceneAt K H s p S) : SceneAt K (upd H d o) s p S := by
  obtain ⟨dx, l, t, q, h1, h2, h3, h4⟩ := h.ex
  refine ⟨h.rule.updD hd, dx, l, t, q, ?_, ?_, ?_, ?_⟩
  · rw [upd_ne (ne_of h1 hd (by intro z; cases z))]; exact h1
  · rw [upd_ne (ne_of h2 hd (by intro z; cases z))]; exact h2
  · rw [upd_ne (ne_of h3 hd (by intro z; cases z))]; exact h3
  · rw [upd_ne (ne_of h4 hd (by intro z; cases z))]; exact h4
theorem Rv.updD {H : Hp} {u s p bg cg d : Addr} {S : Sc} {chg : List Int} {fr : Int} {kvs : List (Key × V)} {o : HO} (hd : H d = some (.dK kvs)) (h : Rv K H u s p bg cg S chg fr) : Rv K (upd H d o) u s p bg cg S chg fr := by
  obtain ⟨dx, sv, cl, wt, h1⟩ := h.obj
  refine ⟨h.scene.updD hd, ⟨dx, sv, cl, wt, ?_⟩, ?_, ?_⟩
  · rw [upd_ne (ne_of h1 hd (by intro z; cases z))]; exact h1
  · rw [upd_ne (ne_of h.hbg hd (by intro z; cases z))]; exact h.hbg
  · rw [upd_ne (ne_of h.hcg hd (by intro z; cases z))]; exact h.hcg
theorem Fd.updD {H : Hp} {x v : V} {f : Str} {d : Addr} {kvs : List (Key × V)} {o : HO} (hd : H d = some (.dK kvs)) (h : Fd K H x f v) : Fd K (upd H d o) x f v := by
  obtain ⟨a, C, dx, fs, h1, h2, h3⟩ := h
  refine ⟨a, C, dx, fs, h1, ?_, h3⟩
  rw [upd_ne (ne_of h2 hd (by intro z; cases z))]; exact h2
/-- the dict is let go -/
theorem Same.thaw {H H' : Hp} {d : Addr} {od : Obj} {u : HO} (hd : H d = some u) (s : Same (upd H d (.frz od u)) H') : Same H (upd H' d u) ∧ H' d = some (.frz od u) := by
  refine ⟨fun b o hb => ?_, s _ _ upd_same⟩
  by_cases e : b = d
  · subst e
    rw [upd_same, ← hb, hd]
  · rw [upd_ne e]
    exact s b o (by rw [upd_ne e]; exact hb)
theorem RunX.know {H0 H : Hp} {u s p bg cg sv cl wt : Addr} {S : Sc} {chg : List Int} {st : RSt} (h : RunX K H0 H u s p bg cg sv cl wt S chg st) {l : Addr} {xs : List V} (hl : H l = some (.lst xs)) (hl0 : H0 l = none) : RunX K (upd H0 l (.lst xs)) H u s p bg cg sv cl wt S chg st := by
  have e0 : Same H0 (upd H0 l (.lst xs)) := same_new hl0
  have nn : ∀ {b : Addr} {x : HO}, H b = some x → (∀ z, x ≠ .lst z) → H0 b = none → upd H0 l (.lst xs) b = none := fun hb hx h0 => by rw [upd_ne (ne_of hb hl (hx xs))]; exact h0
  obtain ⟨dx, g1⟩ := h.obj
  obtain ⟨svk, g2, g3⟩ := h.hsv
  obtain ⟨clk, g4, g5⟩ := h.hcl
  refine ⟨fun b x hb => ?_, h.scene.mono e0, e0 _ _ h.hbg, e0 _ _ h.hcg, h.obj, nn g1 (fun z q => by cases q) h.u0, nn g2 (fun z q => by cases q) h.sv0, nn g4 (fun z q => by cases q) h.cl0, nn h.hwt (fun z q => by cases q) h.wt0, h.hsv, h.hcl, h.hwt, h.n1, h.n2, h.n3⟩
  by_cases eb : b = l
  · subst eb
    rw [upd_same] at hb
    rw [hl]; exact hb
  · rw [upd_ne eb] at hb
    exact h.same _ _ hb
theorem valV_notin {kvs : List (Key × V)} {k : Key} (h : k ∉ kvs.map (·.1)) : valV kvs k = none := by
  have h1 := valV_any k kvs
  have h2 : (kvs.any fun kv => decide (kv.1 = k)) = false := by
    rw [List.any_eq_false]
    intro kv hkv
    simpa using fun e => h (by rw [← e]; exact List.mem_map_of_mem hkv)
  rw [h2] at h1
  cases e : valV kvs k with
  | none => rfl
  | some v => rw [e] at h1; cases h1
/-- places of a list that a test keeps, by what stands there -/
theorem keep_map {α β : Type} (d : α) (keep : α → Bool) (g : α → β) (w : List α) : ((List.range w.length).filter fun i => keep (w.getD i d)).map (fun i => g (w.getD i d)) = (w.filter keep).map g := by
  rw [← filter_range d keep w, List.map_map]
  rfl
theorem getD_of {α : Type} {w : List α} {i : Nat} {q d : α} (h : w[i]? = some q) : w.getD i d = q := by
  rw [List.getD_eq_getElem?_getD, h]
  rfl
def sp_Run_close (K : PySem.W.Frag) : Sp := fun vs H Q _ => ∃ (u s p bg cg sv cl wt : Addr) (S : Sc) (chg : List Int) (st : RSt) (H0 : Hp) (t : Int) (m : Nat), vs = [.ref u, .int t] ∧ RunX K H0 H u s p bg cg sv cl wt S chg st ∧ Good S st ∧ S.R.t = .rep m ∧
  (∃ y ∈ chg, y ≤ t) ∧ chg.length ≤ 40 ∧ ∀ H' y, Lat chg st.free t y → RunX K H0 H' u s p bg cg sv cl wt S chg (st.close S m y) → Q .non H'
theorem sc_Run_close : FnScope ["self", "slot", "begin", "fresh", "members", "client"] ["self", "slot"] (defScope s_Run_close) := ⟨rfl, rfl, rfl, by decide +kernel, rfl, by decide +kernel, by decide +kernel⟩
theorem ok_Run_close {f : Addr} {fd : FuncData} (F : FunD K "close" "Run.close" (defArgs s_Run_close) (defBody s_Run_close) (defScope s_Run_close) [] [] f fd) (T : Txt K mg) (c_S_listed_slots : C8.Met P w K mg base 3 (cS K) "listed_slots" (sp_Scene_listed_slots K) []) (c_U_latest_moment : C8.Met P w K mg base 1 (cU K) "latest_moment" (sp_Run_latest_moment K) []) :
    FnOk P w K mg base CX0 4 f fd ["self", "slot"] (sp_Run_close K) := by
  refine F.ok sc_Run_close (fun vs H Q E h => ?_) (fun cdv A outer s H vs Q E hr h => ?_)
  · obtain ⟨_, _, _, _, _, _, _, _, _, _, _, _, _, _, rfl, _⟩ := h
    rfl
  · have hu := hu_of hr
    obtain ⟨u, s, p, bg, cg, sv, cl, wt, S, chg, st, H0, t, m, rfl, hX, g, hrep, hex, h40, k⟩ := h
    refine ⟨_, PSs.nox ((pss_cons (ps_set (i := 2) sc_Run_close.nd rfl (by first | exact Or.inl rfl | exact Or.inr rfl) (pe_m c_U_latest_moment hr (by decide) (pv 0) (pa_cons (pv 1) pa_nil)))
      (pss_cons (ps_lock (ps_setLc (i := 3) (own := [("client", 5)]) (g := (gName 5)) rfl sc_Run_close.nd rfl rfl (sw_true rfl rfl rfl (by decide +kernel)) (pi_keys (pe_f (pv 0))) (blkOk_by (own := [("client", 5)]) (N := ["self", "slot", "begin", "fresh", "members", "client"]) (sc := defScope s_Run_close) (by decide +kernel)) (fun _ _ _ _ _ => (pg_name (i := 5) sc_Run_close.nd rfl (by first | exact Or.inl rfl | exact Or.inr rfl))) (fun _ _ _ _ _ => (pts_one (pt_cmpR op_le (pe_ix (ix_listK (K := K) rfl) (pe_m c_S_listed_slots hr (by decide) (pe_fK (K := K) rfl (pv 0)) (pa_cons (pv 5) pa_nil)) (pe_un un_neg pe_int) (fun _ _ => rfl)) (pv 2) (nomark _)))) (fun _ _ _ _ _ => (pv 5))))
      (pss_cons (ps_set (i := 4) sc_Run_close.nd rfl (by first | exact Or.inl rfl | exact Or.inr rfl) (pe_callB cr_sortedI (by rfl) T.f_sorted (by decide +kernel) (pa_cons (pe_op op_cat (pv 3) (pe_lock (pe_lc (own := [("client", 5)]) (g := (gName 5)) rfl sc_Run_close.nd (pi_keys (pe_f (pv 0))) (blkOk_by (own := [("client", 5)]) (N := ["self", "slot", "begin", "fresh", "members", "client"]) (sc := defScope s_Run_close) (by decide +kernel)) (fun _ _ _ _ _ => (pg_name (i := 5) sc_Run_close.nd rfl (by first | exact Or.inl rfl | exact Or.inr rfl))) (fun _ _ _ _ _ => (pts_one (pt_cmpR op_le (pe_ix (ix_listK (K := K) rfl) (pe_fK (K := K) rfl (pv 0)) (pv 5) (fun _ _ => rfl)) (pv 2) (nomark _)))) (fun _ _ _ _ _ => (pv 5))))) pa_nil)))
      (pss_one (ps_for PassesOwn.never rfl (pi_list (pv 3)) (pg_name (i := 5) sc_Run_close.nd rfl (by first | exact Or.inl rfl | exact Or.inr rfl)) (pss_cons (ps_expr (pe_dpop1 (pe_f (pv 0)) (pv 5) ⟨rfl, rfl, rfl, rfl⟩))
      (pss_one (ps_dput hu (pe_f (pv 0)) (pv 5) (pe_tup (pa_cons (pe_op op_add (pv 2) pe_int) (pa_cons (pv 4) pa_nil))) rfl))))))))), ?_⟩
    have ok := hX.scene.rule.ok
    refine ⟨_, rfl, hX.rv.md mU_latest_moment, _, rfl, u, s, p, bg, cg, S, chg, st.free, t, rfl, hX.rv, hex, h40, fun H1 y s1 hlat => ?_⟩
    have hX1 := hX.mono s1
    have hwlen : (st.wait.map wkv).length = st.wait.length := List.length_map ..
    have glen := g.len
    -- fresh
    refine ⟨wt, _, hX1.hwt, trivial, fun od => ?_⟩
    have hrvf : Rv K (upd H1 wt (.frz od (.dK (st.wait.map wkv)))) u s p bg cg S chg st.free := hX1.rv.updD hX1.hwt
    refine ⟨_, rfl, _, (hX1.fwt T).updD hX1.hwt, wt, od, rfl, .inl ⟨_, upd_same, fun D hD => lc_pure walk_keys (fun i => fresh S m y (st.wait.getD i (0, 0))) (fun i v _ => v = .int ((st.wait.getD i (0, 0)).1 : Nat)) (fun _ _ _ _ _ h => h) hD (by omega) (fun H2 e => e _ _ upd_same) ?_ ?_⟩⟩
    · rintro i x H2 H3 Ky Kn hi s3 ⟨rfl, kk, vv, hx, rfl⟩ hy hn
      rw [List.getElem?_map] at hx
      obtain ⟨q, hq, hqe⟩ := Option.map_eq_some_iff.mp hx
      cases hqe
      rw [getD_of hq] at hy hn
      have hqm := List.mem_of_getElem? hq
      have hrv3 := hrvf.mono s3
      refine ⟨rfl, ?_⟩
      refine ⟨_, rfl, _, hrv3.fscene T, hrv3.scene.md mS_listed_slots, _, rfl, s, p, S, q.1, m, rfl, hrv3.scene, (g.lt q hqm).1, hrep, fun l2 H4 s4 h5 => ?_⟩
      have hll : ((S.lst m q.1).map V.int).length = S.R.n - m + 1 := by unfold Sc.lst; rw [List.length_map, List.length_map, List.length_range]
      refine ⟨_, rfl, l2, _, _, _, rfl, rfl, SqL.of h5, atI_neg1 (n := S.R.n - m) (v := .int (S.at q.1 + S.R.off (S.R.n - m))) hll ?_, _, rfl, _, _, rfl, rfl, _, rfl, ?_⟩
      · unfold Sc.lst
        rw [List.getElem?_map, List.getElem?_map, List.getElem?_range (by omega)]
        rfl
      · refine ite2 (fun hc => ?_) (fun hc => ?_)
        · exact ⟨_, rfl, hy hc _ _ rfl s4⟩
        · exact hn (by unfold fresh; simpa using hc) _ s4
    intro H2 acc s2 hD2 hm2
    have hacc := Made.fn (H := H2) (f := fun i => V.int ((st.wait.getD i (0, 0)).1 : Nat)) hm2
    rw [hwlen, keep_map (0, 0) (fresh S m y) (fun q : Nat × Nat => V.int (q.1 : Nat))] at hacc
    obtain ⟨sth, hfz⟩ := Same.thaw hX1.hwt s2
    have hnD : D ≠ wt := fun e => by rw [e, hfz] at hD2; cases hD2
    have F_def : ∃ F : List Nat, F = (st.wait.filter (fresh S m y)).map (·.1) := ⟨_, rfl⟩
    obtain ⟨F, hF⟩ := F_def
    have hacc2 : acc = F.map fun c : Nat => V.int (c : Int) := by rw [hacc, hF, List.map_map]; rfl
    refine ⟨hfz, ?_⟩
    have hX2 := hX1.mono sth
    have hD3 : (upd H2 wt (.dK (st.wait.map wkv))) D = some (.lst (F.map fun c : Nat => V.int (c : Int))) := by rw [upd_ne hnD, hD2, hacc2]
    generalize hH3 : upd H2 wt (.dK (st.wait.map wkv)) = H3 at hX2 hD3 sth
    have hD0 : H0 D = none := by
      have h1 : H1 D = none := by
        cases e : H1 D with
        | none => rfl
        | some o =>
          rw [upd_ne hnD] at hD
          rw [e] at hD; cases hD
      exact same_mem hX1.same h1
    -- members
    refine ⟨_, rfl, ?_⟩
    obtain ⟨clk, hck, hck2⟩ := hX2.hcl
    refine ⟨cl, _, hck, trivial, fun od2 => ?_⟩
    have hrvc : Rv K (upd H3 cl (.frz od2 (.dK clk))) u s p bg cg S chg st.free := hX2.rv.updD hck
    have hclen : clk.length = st.closed.length := by
      have := congrArg List.length hck2
      rwa [List.length_map, List.length_map] at this
    refine ⟨_, rfl, _, (hX2.fcl T).updD hck, cl, od2, rfl, .inl ⟨_, upd_same, fun D2 hD2' => lc_pure walk_keys (fun i => decide (S.at (st.closed.getD i 0) ≤ y)) (fun i v _ => v = .int (st.closed.getD i 0 : Nat)) (fun _ _ _ _ _ h => h) hD2' (by omega) (fun H2 e => e _ _ upd_same) ?_ ?_⟩⟩
    · rintro i x H4 H5 Ky Kn hi s4 ⟨rfl, kk, vv, hx, rfl⟩ hy hn
      have hx2 : (clk.map (·.1))[i]? = some kk := by rw [List.getElem?_map, hx]; rfl
      rw [hck2, List.getElem?_map] at hx2
      obtain ⟨c, hc, rfl⟩ := Option.map_eq_some_iff.mp hx2
      rw [getD_of hc] at hy hn
      have hcm := (g.cl c (List.mem_of_getElem? hc)).1
      have hrv4 := hrvc.mono s4
      refine ⟨rfl, ?_⟩
      refine ⟨_, rfl, _, hrv4.fbeg T, _, rfl, bg, _, _, _, rfl, rfl, SqL.of hrv4.hbg, atI_nat (ss_at hcm), _, rfl, _, _, rfl, rfl, _, rfl, ?_⟩
      refine ite2 (fun hc => ?_) (fun hc => ?_)
      · exact ⟨_, rfl, hy hc _ _ rfl (Same.refl _)⟩
      · exact hn (by simpa using hc) _ (Same.refl _)
    intro H4 acc2 s4 hD4 hm4
    have hacc4 := Made.fn (H := H4) (f := fun i => V.int (st.closed.getD i 0 : Nat)) hm4
    have hacc5 : ∃ M : List Int, acc2 = M.map V.int ∧ M.length ≤ 6 := by
      refine ⟨((List.range clk.length).filter fun i => decide (S.at (st.closed.getD i 0) ≤ y)).map fun i => ((st.closed.getD i 0 : Nat) : Int), by rw [hacc4, List.map_map]; rfl, ?_⟩
      rw [List.length_map]
      have := List.length_filter_le (fun i => decide (S.at (st.closed.getD i 0) ≤ y)) (List.range clk.length)
      rw [List.length_range] at this
      omega
    obtain ⟨M, rfl, hM6⟩ := hacc5
    obtain ⟨sth2, hfz2⟩ := Same.thaw hck s4
    refine ⟨hfz2, ?_⟩
    have hX4 := hX2.mono sth2
    have hnD2 : D2 ≠ cl := fun e => by rw [e, hfz2] at hD4; cases hD4
    have hD5 := sth2 _ _ hD3
    have hD4' : (upd H4 cl (.dK clk)) D2 = some (.lst (M.map V.int)) := by rw [upd_ne hnD2, hD4]
    generalize hH5 : upd H4 cl (.dK clk) = H5 at hX4 hD5 hD4' sth2
    have hFlen : F.length ≤ 6 := by
      rw [hF, List.length_map]
      have := List.length_filter_le (fresh S m y) st.wait
      omega
    have hFi : (F.map fun c : Nat => V.int (c : Int)) = (F.map fun c : Nat => (c : Int)).map V.int := by rw [List.map_map]; rfl
    refine ⟨D, D2, _, _, rfl, rfl, hD5, hD4', szL (by rw [List.length_map, List.length_map]; omega), fun c1 hc1 => ?_⟩
    refine ⟨c1, (F.map fun c : Nat => (c : Int)) ++ M, rfl, SqL.of (by rw [upd_same, hFi, List.map_append]), fun ms c2 _ _ hc2 => ?_⟩
    have s56 : Same H5 (upd (upd H5 c1 (.lst ((F.map fun c : Nat => V.int (c : Int)) ++ M.map V.int))) c2 (.lst (ms.map V.int))) := (same_new hc1).trans (same_new hc2)
    have hX5 := (hX4.mono s56).know (s56 _ _ hD5) hD0
    have hFn : F.Nodup := by rw [hF]; exact g.nd.sublist (List.Sublist.map _ List.filter_sublist)
    have hFw : ∀ c ∈ F, ∃ a, (c, a) ∈ st.wait := fun c hc => by
      rw [hF] at hc
      obtain ⟨q, hq, rfl⟩ := List.mem_map.mp hc
      exact ⟨q.2, (List.mem_filter.mp hq).1⟩
    have hnone : ∀ q p : Nat × Nat, (fun _ : Nat × Nat => (none : Option (Nat × Nat))) q = some p → p.1 = q.1 := fun q p h => by cases h
    refine ⟨_, rfl, D, rfl, ⟨_, SqL.of (s56 _ _ hD5)⟩, for_list (K := K) (a := D) (xs := F.map fun c : Nat => V.int (c : Int)) (fun i σ' H' => ∃ v5 : Option V, σ' = [some (.ref u), some (.int t), some (.int y), some (.ref D), some (.ref c2), v5] ∧
      RunX K (upd H0 D (.lst (F.map fun c : Nat => V.int (c : Int)))) H' u s p bg cg sv cl wt S chg { st with wait := part (fun _ => none) (F.take i) st.wait, closed := st.closed ++ F.take i }) ?_ ?_ ?_ ?_⟩
    · refine ⟨none, rfl, ?_⟩
      rw [List.take_zero, part_nil, List.append_nil]
      exact hX5
    · rintro i σ' H' _ ⟨_, _, h⟩
      exact SqL.of (h.same _ _ upd_same)
    · rintro i x σ' H' hx ⟨v5, rfl, hX6⟩
      rw [List.getElem?_map] at hx
      obtain ⟨c, hc, rfl⟩ := Option.map_eq_some_iff.mp hx
      obtain ⟨a, ha⟩ := hFw c (List.mem_of_getElem? hc)
      have htk : F.take (i + 1) = F.take i ++ [c] := by rw [List.take_add_one, hc]; rfl
      have hcn : c ∉ F.take i := fun hm => by
        obtain ⟨b2, c2⟩ := List.getElem?_eq_some_iff.mp hc
        obtain ⟨j, hj⟩ := List.mem_iff_getElem?.mp hm
        rw [List.getElem?_take] at hj
        split at hj
        · rename_i hji
          obtain ⟨b1, c1⟩ := List.getElem?_eq_some_iff.mp hj
          have := List.pairwise_iff_getElem.mp (List.nodup_iff_pairwise_ne.mp hFn) j i b1 b2 hji
          rw [c1, c2] at this
          exact this rfl
        · cases hj
      have hpm := part_get (f := fun _ => none) ha hcn
      have hpn := g.nd.sublist (part_keys hnone (F.take i) st.wait)
      refine ⟨_, rfl, _, hX6.fwt T, wt, rfl, .inl ⟨_, .inl hX6.hwt⟩, _, rfl, _, .inl (c : Int), _, hX6.hwt, rfl, wkv_get hpn hpm, ?_⟩
      have hX7 := hX6.setW (dropW2 (part (fun _ => none) (F.take i) st.wait) c)
      rw [← wkv_drop, part_drop hnone g.nd ha hcn rfl, ← htk] at hX7
      obtain ⟨clk7, hk7, hk72⟩ := hX7.hcl
      refine ⟨_, rfl, _, _, rfl, rfl, _, rfl, by show 2 ≤ sizeLine; decide, fun tp htp => ?_⟩
      have hX8 := hX7.mono (same_new (o := .tup [.int (y + 1), .ref c2]) htp)
      have hk8 := (same_new (o := .tup [.int (y + 1), .ref c2]) htp) _ _ hk7
      have hclk7 : clk7.length ≤ 12 := by
        have := congrArg List.length hk72
        rw [List.length_map, List.length_map] at this
        have h2 : (F.take i).length ≤ F.length := by rw [List.length_take]; omega
        have h3 : clk7.length = (st.closed ++ F.take i).length := this
        rw [List.length_append] at h3
        omega
      have hnew : valV clk7 (.inl (c : Int)) = none := valV_notin (by
        rw [hk72]
        intro hm
        obtain ⟨c', hc', e⟩ := List.mem_map.mp hm
        have e2 : c' = c := inl_nat.mp e
        subst e2
        rcases List.mem_append.mp hc' with h1 | h1
        · exact (g.cl c' h1).2 (List.mem_map.mpr ⟨(c', a), ha, rfl⟩)
        · exact hcn h1)
      refine ⟨_, rfl, _, hX8.fcl T, _, rfl, cl, _, rfl, .inl ⟨_, .inl (c : Int), hk8, rfl, szLt (by omega), rfl⟩, ?_⟩
      refine ⟨_, rfl, ?_⟩
      have := hX8.setC hk8 (clk' := putK clk7 (.inl (c : Int)) (.ref tp)) (c := st.closed ++ F.take (i + 1)) (by
        rw [putK_new _ hnew, List.map_append, hk72, htk, ← List.append_assoc, List.map_append (l₂ := [c])]
        rfl)
      exact this
    · rintro σ' H' ⟨v5, rfl, hX6⟩
      rw [List.length_map, List.take_length] at hX6
      have hpart : part (fun _ => none) F st.wait = (st.close S m y).wait := by
        show part (fun _ => none) F st.wait = st.wait.filter (fun q => !fresh S m y q)
        unfold part
        rw [← List.filterMap_eq_filter]
        refine fm_congr fun q hq => ?_
        have hiff : q.1 ∈ F ↔ fresh S m y q = true := by
          rw [hF]
          constructor
          · intro h
            obtain ⟨z, hz, e⟩ := List.mem_map.mp h
            obtain ⟨hz1, hz2⟩ := List.mem_filter.mp hz
            have : z = q := nodup_inj g.nd hz1 hq e
            rw [← this]; exact hz2
          · intro h
            exact List.mem_map_of_mem (List.mem_filter.mpr ⟨hq, h⟩)
        by_cases h : fresh S m y q = true
        · rw [if_pos (hiff.mpr h)]
          simp [Option.guard, h]
        · rw [if_neg fun z => h (hiff.mp z)]
          simp [Option.guard, h]
      have e : (st.close S m y).closed = st.closed ++ F := by rw [hF]; rfl
      have := hX6.weaken (same_new hD0) hX.scene hX.hbg hX.hcg
      refine k H' y hlat ?_
      rw [hpart, ← e] at this
      exact this
end
end My
set_option Elab.async false
set_option linter.all false
set_option maxRecDepth 100000
set_option maxHeartbeats 4000000
namespace My
open PySem PySem.Spec PyProof.Rows L2
section
variable {P : Program} {w : World} {K : PySem.W.Frag} {mg : Str → Option Value} {base : Heap}
def atSlot (S : Sc) (t : Int) (q : Nat × Nat) : Bool := decide (S.slot q = t)
def sp_Run_decide (K : PySem.W.Frag) : Sp := fun vs H Q _ => ∃ (u s p bg cg sv cl wt la : Addr) (S : Sc) (chg : List Int) (st : RSt) (H0 : Hp) (t : Int) (C : List Nat), vs = [.ref u, .int t, .ref la] ∧ RunX K H0 H u s p bg cg sv cl wt S chg st ∧ Good S st ∧ S.Ok ∧ IsMin S st.wait t ∧
  C = (st.wait.filter (atSlot S t)).map (·.1) ∧ H0 la = some (.lst (C.map fun c : Nat => V.int (c : Int))) ∧ S.out t = false ∧ (∀ m, S.R.t = .rep m → ∃ y, Lat chg st.free t y ∧ t - y ≤ S.R.per m) ∧ t - S.oa ≤ 2 ^ 40 ∧
  ∀ H' st', Adv S chg st st' → RunX K H0 H' u s p bg cg sv cl wt S chg st' → Q .non H'
theorem optV_non (o : Option Nat) : (!decide (optV o = .non)) = o.isSome := by
  cases o with
  | none => rfl
  | some a => exact congrArg (!·) (decide_eq_false (fun z => by cases z))
theorem sc_Run_decide : FnScope ["self", "slot", "clients", "others", "client"] ["self", "slot", "clients"] (defScope s_Run_decide) := ⟨rfl, rfl, rfl, by decide +kernel, rfl, by decide +kernel, by decide +kernel⟩
theorem ok_Run_decide {f : Addr} {fd : FuncData} (F : FunD K "decide" "Run.decide" (defArgs s_Run_decide) (defBody s_Run_decide) (defScope s_Run_decide) [] [] f fd) (T : Txt K mg) (c_R_attempt_at : C8.Met P w K mg base 4 (cR K) "attempt_at" (sp_Rule_attempt_at K) []) (c_R_attempts : C8.Met P w K mg base 1 (cR K) "attempts" (sp_Rule_attempts K) []) (c_S_length : C8.Met P w K mg base 1 (cS K) "length" (sp_Scene_length K) []) :
    FnOk P w K mg base CX0 5 f fd ["self", "slot", "clients"] (sp_Run_decide K) := by
  refine F.ok sc_Run_decide (fun vs H Q E h => ?_) (fun cdv A outer s H vs Q E hr h => ?_)
  · obtain ⟨_, _, _, _, _, _, _, _, _, _, _, _, _, _, _, rfl, _⟩ := h
    rfl
  · have hu := hu_of hr
    obtain ⟨u, s, p, bg, cg, sv, cl, wt, la, S, chg, st, H0, t, C, rfl, hX, g, ok, hmin, hC, hla, hout, hr0, h40, k⟩ := h
    refine ⟨_, PSs.nox ((pss_cons (ps_lock (ps_setLc (i := 3) (own := [("client", 4)]) (g := (gName 4)) rfl sc_Run_decide.nd rfl rfl (sw_true rfl rfl rfl (by decide +kernel)) (pi_keys (pe_f (pv 0))) (blkOk_by (own := [("client", 4)]) (N := ["self", "slot", "clients", "others", "client"]) (sc := defScope s_Run_decide) (by decide +kernel)) (fun _ _ _ _ _ => (pg_name (i := 4) sc_Run_decide.nd rfl (by first | exact Or.inl rfl | exact Or.inr rfl))) (fun _ _ _ _ _ => (pts_one (pt_cmpR op_notN (pe_m c_R_attempt_at hr (by decide) (pe_fK (K := K) rfl (pv 0)) (pa_cons (pe_op op_sub (pv 1) (pe_ix (ix_listK (K := K) rfl) (pe_fK (K := K) rfl (pv 0)) (pv 4) (fun _ _ => rfl))) pa_nil)) pe_non (nomark _)))) (fun _ _ _ _ _ => (pv 4))))
      (pss_cons (ps_if (pt_cmpR op_eq (pe_callB call_len_seq (by rfl) T.f_len (by decide +kernel) (pa_cons (pe_op op_cat (pv 2) (pv 3)) pa_nil)) pe_int (nomark _)) (pss_cons (ps_dput hu (pe_f (pv 0)) (pe_ix ix_list (pv 2) pe_int (fun _ _ => rfl)) (pe_tup (pa_cons (pe_dpop1 (pe_f (pv 0)) (pe_ix ix_list (pv 2) pe_int (fun _ _ => rfl)) ⟨rfl, rfl, rfl, rfl⟩) (pa_cons (pv 1) pa_nil))) rfl)
      (pss_cons (ps_fld (pv 0) (pe_op op_add (pv 1) (pe_m0 c_S_length hr (by decide) (pe_f (pv 0)))) rfl)
      (pss_one ps_retN))) pss_nil)
      (pss_one (ps_for PassesOwn.never rfl (pi_list (pv 2)) (pg_name (i := 4) sc_Run_decide.nd rfl (by first | exact Or.inl rfl | exact Or.inr rfl)) (pss_cons (ps_daug hu (pe_f (pv 0)) (pv 4) pe_int in_add (fun _ _ _ => rfl))
      (pss_one (ps_if (pt_cmpR op_eq (pe_dget hu (pe_f (pv 0)) (pv 4) (fun _ _ => rfl)) (pe_m0 c_R_attempts hr (by decide) (pe_f (pv 0))) (nomark _)) (pss_one (ps_expr (pe_dpop1 (pe_f (pv 0)) (pv 4) ⟨rfl, rfl, rfl, rfl⟩))) pss_nil)))))))), ?_⟩
    have glen := g.len
    obtain ⟨clk, hck, hck2⟩ := hX.hcl
    have hrvc : ∀ od2, Rv K (upd H cl (.frz od2 (.dK clk))) u s p bg cg S chg st.free := fun od2 => hX.rv.updD hck
    have hclen : clk.length = st.closed.length := by
      have := congrArg List.length hck2
      rwa [List.length_map, List.length_map] at this
    refine ⟨cl, _, hck, trivial, fun od2 => ?_⟩
    refine ⟨_, rfl, _, (hX.fcl T).updD hck, cl, od2, rfl, .inl ⟨_, upd_same, fun D hD => lc_pure walk_keys (fun i => S.R.hit (t - S.at (st.closed.getD i 0))) (fun i v _ => v = .int (st.closed.getD i 0 : Nat)) (fun _ _ _ _ _ h => h) hD (by omega) (fun H2 e => e _ _ upd_same) ?_ ?_⟩⟩
    · rintro i x H4 H5 Ky Kn hi s4 ⟨rfl, kk, vv, hx, rfl⟩ hy hn
      have hx2 : (clk.map (·.1))[i]? = some kk := by rw [List.getElem?_map, hx]; rfl
      rw [hck2, List.getElem?_map] at hx2
      obtain ⟨c, hc, rfl⟩ := Option.map_eq_some_iff.mp hx2
      rw [getD_of hc] at hy hn
      have hcm := (g.cl c (List.mem_of_getElem? hc)).1
      have hat := ok.at_ hcm
      have hrv4 := (hrvc od2).mono s4
      refine ⟨rfl, ?_⟩
      refine ⟨_, rfl, _, hrv4.fpat T, hrv4.scene.rule.md mR_attempt_at, _, rfl, _, rfl, _, hrv4.fbeg T, _, rfl, bg, _, _, _, rfl, rfl, SqL.of hrv4.hbg, atI_nat (ss_at hcm), _, _, rfl, rfl, p, S.R, _, rfl, hrv4.scene.rule, fun b e => by omega, fun H6 s6 => ?_⟩
      refine ⟨rfl, _, rfl, ?_⟩
      rw [optV_non]
      refine ite2 (fun hc => ?_) (fun hc => ?_)
      · exact ⟨_, rfl, hy hc _ _ rfl s6⟩
      · exact hn (by unfold Ru.hit; simpa using hc) _ s6
    intro H1 acc s1 hD1 hm1
    have hacc := Made.fn (H := H1) (f := fun i => V.int (st.closed.getD i 0 : Nat)) hm1
    have O_def : ∃ O : List Nat, O = st.closed.filter fun c => S.R.hit (t - S.at c) := ⟨_, rfl⟩
    obtain ⟨O, hO⟩ := O_def
    have hacc2 : acc = O.map fun c : Nat => V.int (c : Int) := by
      rw [hacc, hclen, hO]
      exact keep_map (0 : Nat) (fun c => S.R.hit (t - S.at c)) (fun c : Nat => V.int (c : Int)) st.closed
    obtain ⟨sth, hfz⟩ := Same.thaw hck s1
    have hnD : D ≠ cl := fun e => by rw [e, hfz] at hD1; cases hD1
    refine ⟨hfz, ?_⟩
    have hX1 := hX.mono sth
    have hD2 : (upd H1 cl (.dK clk)) D = some (.lst (O.map fun c : Nat => V.int (c : Int))) := by rw [upd_ne hnD, hD1, hacc2]
    generalize hH2 : upd H1 cl (.dK clk) = H2 at hX1 hD2 sth
    have hla2 := hX1.same _ _ hla
    have hClen : C.length ≤ 6 := by
      rw [hC, List.length_map]
      have := List.length_filter_le (atSlot S t) st.wait
      omega
    have hOlen : O.length ≤ 6 := by
      rw [hO]
      have := List.length_filter_le (fun c => S.R.hit (t - S.at c)) st.closed
      omega
    have hCn : C.Nodup := by rw [hC]; exact g.nd.sublist (List.Sublist.map _ List.filter_sublist)
    have hCw : ∀ c ∈ C, ∃ a, (c, a) ∈ st.wait ∧ S.slot (c, a) = t := fun c hc => by
      rw [hC] at hc
      obtain ⟨q, hq, rfl⟩ := List.mem_map.mp hc
      obtain ⟨h1, h2⟩ := List.mem_filter.mp hq
      exact ⟨q.2, h1, of_decide_eq_true h2⟩
    have hC0 : ∃ c C', C = c :: C' := by
      obtain ⟨q, hq, hqs⟩ := hmin.mem
      have : q.1 ∈ C := by rw [hC]; exact List.mem_map_of_mem (List.mem_filter.mpr ⟨hq, decide_eq_true hqs⟩)
      cases hc : C with
      | nil => rw [hc] at this; cases this
      | cons c C' => exact ⟨c, C', rfl⟩
    obtain ⟨c0, C', hCc⟩ := hC0
    obtain ⟨a0, hca, hcs⟩ := hCw c0 (by rw [hCc]; exact List.mem_cons_self ..)
    have hlc := g.lt _ hca
    refine ⟨_, rfl, _, rfl, la, D, _, _, rfl, rfl, hla2, hD2, szL (by rw [List.length_map, List.length_map]; omega), fun c1 hc1 => ?_⟩
    have s23 : Same H2 (upd H2 c1 (.lst ((C.map fun c : Nat => V.int (c : Int)) ++ O.map fun c : Nat => V.int (c : Int)))) := same_new hc1
    refine ⟨c1, _, rfl, .inl (SqL.of upd_same), rfl, _, rfl, ?_⟩
    have hX2 := hX1.mono s23
    have hcount : decide (V.int ((((C.map fun c : Nat => V.int (c : Int)) ++ O.map fun c : Nat => V.int (c : Int)).length : Nat) : Int) = V.int 1) = decide (C.length + O.length = 1) := by
      rw [List.length_append, List.length_map, List.length_map]
      by_cases h : C.length + O.length = 1
      · rw [decide_eq_true h, h]
        exact decide_eq_true rfl
      · rw [decide_eq_false h]
        exact decide_eq_false fun z => h (by injection z with z; omega)
    rw [hcount]
    refine ite2 (fun hc => ?_) (fun hc => ?_)
    · have h1 : C.length + O.length = 1 := of_decide_eq_true hc
      have hC1 : C = [c0] := by
        rw [hCc] at h1 ⊢
        rw [List.length_cons] at h1
        have : C' = [] := List.length_eq_zero_iff.mp (by omega)
        rw [this]
      have hla3 := hX2.same _ _ hla
      have hat0 : atI (C.map fun c : Nat => V.int (c : Int)) 0 = some (V.int (c0 : Int)) := by rw [hC1]; rfl
      refine ⟨_, rfl, _, hX2.fwt T, wt, rfl, .inl ⟨_, .inl hX2.hwt⟩, _, rfl, la, _, _, _, rfl, rfl, SqL.of hla3, hat0, _, .inl (c0 : Int), _, hX2.hwt, rfl, wkv_get g.nd hca, ?_⟩
      rw [wkv_drop]
      have hX3 := hX2.setW (dropW2 st.wait c0)
      refine ⟨_, rfl, by show 2 ≤ sizeLine; decide, fun tp htp => ?_⟩
      have s4 := same_new (o := .tup [V.int (a0 : Int), V.int t]) htp
      have hX4 := hX3.mono s4
      obtain ⟨svk, hsv, hsv2⟩ := hX4.hsv
      have hsl : svk.length = st.serv.length := pq_len hsv2
      have glen2 := g.len2
      have hnew : valV svk (.inl (c0 : Int)) = none := valV_notin fun hm => by
        obtain ⟨kv, hkv, e⟩ := List.mem_map.mp hm
        obtain ⟨z, hz, tz, e1, e2⟩ := pq_mem hsv2 hkv
        rw [e1] at e
        have e3 : z.1 = c0 := inl_nat.mp e
        refine (g.sv z hz).2.2 ?_
        rw [e3]
        exact List.mem_map.mpr ⟨(c0, a0), hca, rfl⟩
      have hla4 := hX4.same _ _ hla
      refine ⟨_, rfl, _, hX4.fsv T, _, rfl, la, _, _, _, rfl, rfl, SqL.of hla4, hat0, sv, _, rfl, .inl ⟨_, .inl (c0 : Int), hsv, rfl, szLt (by omega), rfl⟩, ?_⟩
      have hX5 := hX4.setS hsv (svk' := svk ++ [(.inl (c0 : Int), .ref tp)]) (z := st.serv ++ [(c0, a0, t)]) (Paired.snoc hsv2 ⟨tp, rfl, upd_same⟩)
      rw [← putK_new _ hnew] at hX5
      obtain ⟨dx, hu5⟩ := hX5.obj
      have hrv5 := hX5.rv
      refine ⟨_, rfl, _, rfl, _, hrv5.fscene T, hrv5.scene.md mS_length, s, p, S, rfl, hrv5.scene, _, _, rfl, rfl, ?_⟩
      refine ⟨_, rfl, u, _, dx, _, rfl, hu5, T.clU, T.nU_free_from, (by rw [ufs_len]; decide), ?_⟩
      rw [ufs_again]
      have hX6 := hX5.setF hu5 (t + S.len)
      exact k _ _ (Adv.serve hmin hout hca hcs) hX6
    · have h1 : ¬ C.length + O.length = 1 := fun z => hc (decide_eq_true z)
      have hadv : Adv S chg st (st.meet S t) := by
        refine Adv.meet hmin hr0 ?_
        cases hOO : O with
        | cons c' O' =>
          have hm : c' ∈ st.closed.filter fun c => S.R.hit (t - S.at c) := by rw [← hO, hOO]; exact List.mem_cons_self ..
          obtain ⟨g1, g2⟩ := List.mem_filter.mp hm
          refine ⟨c0, a0, c', hca, hcs, fun e => (g.cl c' g1).2 ?_, (g.cl c' g1).1, g2⟩
          rw [e]
          exact List.mem_map.mpr ⟨(c0, a0), hca, rfl⟩
        | nil =>
          rw [hOO, hCc, List.length_cons, List.length_nil] at h1
          cases hCC : C' with
          | nil => rw [hCC] at h1; exact absurd rfl h1
          | cons c' C'' =>
            have hm : c' ∈ C := by rw [hCc, hCC]; simp
            obtain ⟨a', ha', hs'⟩ := hCw c' hm
            have hl' := g.lt _ ha'
            refine ⟨c0, a0, c', hca, hcs, fun e => ?_, hl'.1, (Ru.hit_iff ok.rok).mpr ⟨a', hl'.2.1, ?_⟩⟩
            · rw [hCc, hCC, List.nodup_cons] at hCn
              exact hCn.1 (by rw [e]; exact List.mem_cons_self ..)
            · have : S.at c' + S.R.off a' = t := hs'
              omega
      have f_def : ∃ f : Nat × Nat → Option (Nat × Nat), f = (fun q : Nat × Nat => if S.R.has (q.2 + 1) = true then some (q.1, q.2 + 1) else none) := ⟨_, rfl⟩
      obtain ⟨f, hf⟩ := f_def
      have hfk : ∀ q p, f q = some p → p.1 = q.1 := fun q p h => by
        rw [hf] at h
        dsimp only at h
        split at h
        · cases h; rfl
        · cases h
      refine ⟨_, rfl, la, rfl, ⟨_, SqL.of (hX2.same _ _ hla)⟩, for_list (K := K) (a := la) (xs := C.map fun c : Nat => V.int (c : Int)) (fun i σ' H' => ∃ v4 : Option V, σ' = [some (.ref u), some (.int t), some (.ref la), some (.ref D), v4] ∧
        RunX K H0 H' u s p bg cg sv cl wt S chg { st with wait := part f (C.take i) st.wait }) ?_ ?_ ?_ ?_⟩
      · refine ⟨none, rfl, ?_⟩
        rw [List.take_zero, part_nil]
        exact hX2
      · rintro i σ' H' _ ⟨_, _, h⟩
        exact SqL.of (h.same _ _ hla)
      · rintro i x σ' H' hx ⟨v4, rfl, hX3⟩
        rw [List.getElem?_map] at hx
        obtain ⟨c, hc, rfl⟩ := Option.map_eq_some_iff.mp hx
        obtain ⟨a, ha, hs⟩ := hCw c (List.mem_of_getElem? hc)
        have hla := (g.lt _ ha).2.1
        have htk : C.take (i + 1) = C.take i ++ [c] := by rw [List.take_add_one, hc]; rfl
        have hcn : c ∉ C.take i := fun hm => by
          obtain ⟨b2, c2⟩ := List.getElem?_eq_some_iff.mp hc
          obtain ⟨j, hj⟩ := List.mem_iff_getElem?.mp hm
          rw [List.getElem?_take] at hj
          split at hj
          · rename_i hji
            obtain ⟨b1, c1⟩ := List.getElem?_eq_some_iff.mp hj
            have := List.pairwise_iff_getElem.mp (List.nodup_iff_pairwise_ne.mp hCn) j i b1 b2 hji
            rw [c1, c2] at this
            exact this rfl
          · cases hj
        have hpm := part_get (f := f) ha hcn
        have hpn : ((part f (C.take i) st.wait).map (·.1)).Nodup := g.nd.sublist (part_keys hfk (C.take i) st.wait)
        have hplen : (part f (C.take i) st.wait).length ≤ 6 := Nat.le_trans (List.length_filterMap_le _ _) (by omega)
        have hkey : c ∈ (part f (C.take i) st.wait).map (·.1) := List.mem_map.mpr ⟨(c, a), hpm, rfl⟩
        have hget := wkv_get hpn hpm
        refine ⟨_, rfl, _, hX3.fwt T, _, rfl, wt, _, rfl, hget ▸ DGet.k (k := .inl (c : Int)) hX3.hwt, _, _, rfl, rfl, _, .inl ⟨_, .inl (c : Int), hX3.hwt, rfl, szLt (by rw [List.length_map]; show (part f (C.take i) st.wait).length < _; omega), rfl⟩, ?_⟩
        have hput := wkv_put hkey (a + 1)
        have hX4 := hX3.setW (putW2 (part f (C.take i) st.wait) c (a + 1))
        rw [← hput] at hX4
        have hpm2 : (c, a + 1) ∈ putW2 (part f (C.take i) st.wait) c (a + 1) := put_mem hpm
        have hpn2 : ((putW2 (part f (C.take i) st.wait) c (a + 1)).map (·.1)).Nodup := by rw [put_keys]; exact hpn
        have hget2 := wkv_get hpn2 hpm2
        have hrv4 := hX4.rv
        have hl1 : decide (V.int ((a : Int) + 1) = S.R.lim) = !S.R.has (a + 1) := lim_eq S.R a hla
        refine ⟨_, rfl, _, hX4.fwt T, _, rfl, wt, _, rfl, hget2 ▸ DGet.k (k := .inl (c : Int)) hX4.hwt, _, rfl, _, hrv4.fpat T, hrv4.scene.rule.md mR_attempts, p, S.R, rfl, hrv4.scene.rule, lim_scal S.R _, _, rfl, ?_⟩
        refine ite2 (fun hc2 => ?_) (fun hc2 => ?_)
        · have hh : S.R.has (a + 1) = false := by
            have : decide (V.int ((a : Int) + 1) = S.R.lim) = true := hc2
            rw [hl1] at this
            simpa using this
          have efq : f (c, a) = none := by rw [hf]; exact if_neg (by rw [hh]; decide)
          refine ⟨_, rfl, _, hX4.fwt T, wt, rfl, .inl ⟨_, .inl hX4.hwt⟩, _, rfl, _, .inl (c : Int), _, hX4.hwt, rfl, hget2, ?_⟩
          refine ⟨_, rfl, ?_⟩
          have hX5 := hX4.setW (dropW2 (putW2 (part f (C.take i) st.wait) c (a + 1)) c)
          rw [← wkv_drop, drop_put, part_drop hfk g.nd ha hcn efq, ← htk] at hX5
          exact hX5
        · have hh : S.R.has (a + 1) = true := by
            have : ¬ decide (V.int ((a : Int) + 1) = S.R.lim) = true := hc2
            rw [hl1] at this
            simpa using this
          have efq : f (c, a) = some (c, a + 1) := by rw [hf]; exact if_pos hh
          refine ⟨_, rfl, ?_⟩
          have hX5 := hX4
          rw [part_put hfk g.nd ha hcn efq, ← htk] at hX5
          exact hX5
      · rintro σ' H' ⟨v4, rfl, hX3⟩
        rw [List.length_map, List.take_length] at hX3
        have hpart : part f C st.wait = (st.meet S t).wait := by
          show part f C st.wait = st.wait.filterMap _
          unfold part
          refine fm_congr fun q hq => ?_
          have hiff : q.1 ∈ C ↔ S.slot q = t := by
            rw [hC]
            constructor
            · intro h
              obtain ⟨z, hz, e⟩ := List.mem_map.mp h
              obtain ⟨hz1, hz2⟩ := List.mem_filter.mp hz
              have : z = q := nodup_inj g.nd hz1 hq e
              rw [← this]
              exact of_decide_eq_true hz2
            · intro h
              exact List.mem_map_of_mem (List.mem_filter.mpr ⟨hq, decide_eq_true h⟩)
          by_cases h : S.slot q = t
          · rw [if_pos (hiff.mpr h), if_pos h, hf]
          · rw [if_neg fun z => h (hiff.mp z), if_neg h]
        rw [hpart] at hX3
        exact k H' _ hadv hX3
end
end My
set_option Elab.async false
set_option linter.all false
set_option maxRecDepth 100000
set_option maxHeartbeats 4000000
namespace My
open PySem PySem.Spec PyProof.Rows L2
section
variable {P : Program} {w : World} {K : PySem.W.Frag} {mg : Str → Option Value} {base : Heap}
def sp_Run_advance (K : PySem.W.Frag) : Sp := fun vs H Q _ => ∃ (u s p bg cg sv cl wt : Addr) (S : Sc) (chg : List Int) (st : RSt) (H0 : Hp), vs = [.ref u] ∧ RunX K H0 H u s p bg cg sv cl wt S chg st ∧ Good S st ∧ S.Ok ∧ IsMom S chg ∧ st.wait ≠ [] ∧
  ∀ H' st', Adv S chg st st' → RunX K H0 H' u s p bg cg sv cl wt S chg st' → Q .non H'
theorem Lat.uniq {chg : List Int} {free t x y : Int} (h1 : Lat chg free t x) (h2 : Lat chg free t y) : x = y := by
  have := h1.top y h2.mem h2.le
  have := h2.top x h1.mem h1.le
  omega
theorem dc_it {J : It} {n : Nat} {G : Hp → Prop} {Y : Nat → Hp → V → Hp → Prop} (w : Walk J n G Y) {g : TG} {tt : TT} {tk tv : TE} {vs : List Nat} {σ : L2.St} {H1 : Hp} {D : Addr} {Qd : Hp → Prop} (Pv : Nat → Hp → Prop) (h0 : Pv 0 (upd H1 D (.dK []))) (hG : ∀ i H, i ≤ n → Pv i H → G H)
    (hs : ∀ i x H H', i < n → Pv i H → Y i H x H' → g x (wipe σ vs) H' fun σ2 H2 => wipe σ2 vs = wipe σ vs ∧ tt σ2 H2 fun b H3 =>
      if b = true then tk σ2 H3 fun y H4 => tv σ2 H4 fun z H5 => ∃ kvs k, y = kV k ∧ H5 D = some (.dK kvs) ∧ kvs.length < sizeLine ∧ Pv (i + 1) (upd H5 D (.dK (putK kvs k z))) else Pv (i + 1) H3) (hd : ∀ H, Pv n H → Qd H) :
    ∃ W : Nat → Nat → Hp → Prop, (∃ m, W 0 m (upd H1 D (.dK []))) ∧ ∀ i m H, W i m H →
      (J.stop i H ∧ Qd H) ∨ (J.go i H ∧ ∃ Nx : Hp → Prop, (∀ H', Nx H' → ∃ m', m' < m ∧ W (i + 1) m' H') ∧ ∀ x H', J.yld i H x H' → g x (wipe σ vs) H' fun σ2 H2 => wipe σ2 vs = wipe σ vs ∧ tt σ2 H2 fun b H3 =>
        if b = true then tk σ2 H3 fun y H4 => tv σ2 H4 fun z H5 => ∃ kvs k, y = kV k ∧ H5 D = some (.dK kvs) ∧ kvs.length < sizeLine ∧ Nx (upd H5 D (.dK (putK kvs k z))) else Nx H3) := by
  refine ⟨fun i m H => m = n - i ∧ i ≤ n ∧ Pv i H, ⟨n, by simp, Nat.zero_le _, h0⟩, ?_⟩
  rintro i m H ⟨rfl, hi, p⟩
  have q := hG i H hi p
  by_cases hlt : i < n
  · exact .inr ⟨w.goes i H hlt q, Pv (i + 1), fun H' p' => ⟨n - (i + 1), by omega, rfl, hlt, p'⟩, fun x H' y => hs i x H H' hlt p (w.yields i H x H' hlt q y)⟩
  · have e : i = n := by omega
    subst e
    exact .inl ⟨w.stops H q, hd H p⟩
theorem yes_k {σ : L2.St} {H : Hp} {A B : Hp → Prop} (h : A H) : tYes σ H fun b H3 => if b = true then A H3 else B H3 := by
  show (if true = true then A H else B H)
  rw [if_pos rfl]
  exact h
def skv (S : Sc) (q : Nat × Nat) : Key × V := (.inl (q.1 : Int), .int (S.slot q))
theorem sc_Run_advance : FnScope ["self", "slots", "slot", "end", "client", "its", "its_slot"] ["self"] (defScope s_Run_advance) := ⟨rfl, rfl, rfl, by decide +kernel, rfl, by decide +kernel, by decide +kernel⟩
theorem ok_Run_advance {f : Addr} {fd : FuncData} (F : FunD K "advance" "Run.advance" (defArgs s_Run_advance) (defBody s_Run_advance) (defScope s_Run_advance) [] [] f fd) (T : Txt K mg) (c_R_offset_of : C8.Met P w K mg base 2 (cR K) "offset_of" (sp_Rule_offset_of K) []) (c_U_close : C8.Met P w K mg base 4 (cU K) "close" (sp_Run_close K) []) (c_U_decide : C8.Met P w K mg base 5 (cU K) "decide" (sp_Run_decide K) []) (c_U_failing_until : C8.Met P w K mg base 3 (cU K) "failing_until" (sp_Run_failing_until K) []) (c_U_is_repeated : C8.Met P w K mg base 2 (cU K) "is_repeated" (sp_Run_is_repeated K) []) (c_U_skip_to : C8.Met P w K mg base 4 (cU K) "skip_to" (sp_Run_skip_to K) []) :
    FnOk P w K mg base CX0 6 f fd ["self"] (sp_Run_advance K) := by
  refine F.ok sc_Run_advance (fun vs H Q E h => ?_) (fun cdv A outer s H vs Q E hr h => ?_)
  · obtain ⟨_, _, _, _, _, _, _, _, _, _, _, _, rfl, _⟩ := h
    rfl
  · have hu := hu_of hr
    obtain ⟨u, s, p, bg, cg, sv, cl, wt, S, chg, st, H0, rfl, hX, g, ok, hmom, hne, k⟩ := h
    refine ⟨_, PSs.nox ((pss_cons (ps_lock (ps_setDc (i := 1) (own := [("client", 4), ("its", 5)]) (g := (gTup K 2 (gCons (gName 4) (gCons (gName 5) gNil)))) (tt := tYes) rfl sc_Run_advance.nd rfl rfl (sw_trueD rfl rfl rfl (by decide +kernel)) (pi_items (pe_f (pv 0))) (blkOk_by (own := [("client", 4), ("its", 5)]) (N := ["self", "slots", "slot", "end", "client", "its", "its_slot"]) (sc := defScope s_Run_advance) (by decide +kernel)) (fun _ _ _ _ _ => (pg_tup rfl (pgs_cons (pg_name (i := 4) sc_Run_advance.nd rfl (by first | exact Or.inl rfl | exact Or.inr rfl)) (pgs_cons (pg_name (i := 5) sc_Run_advance.nd rfl (by first | exact Or.inl rfl | exact Or.inr rfl)) pgs_nil)))) (fun _ _ _ _ _ => pts_nil) (fun _ _ _ _ _ => (pv 4)) (fun _ _ _ _ _ => (pe_op op_add (pe_ix (ix_listK (K := K) rfl) (pe_fK (K := K) rfl (pv 0)) (pv 4) (fun _ _ => rfl)) (pe_m c_R_offset_of hr (by decide) (pe_fK (K := K) rfl (pv 0)) (pa_cons (pv 5) pa_nil))))))
      (pss_cons (ps_set (i := 2) sc_Run_advance.nd rfl (by first | exact Or.inl rfl | exact Or.inr rfl) (pe_minVals rfl (by rfl) T.f_min (pv 1)))
      (pss_cons (ps_set (i := 3) sc_Run_advance.nd rfl (by first | exact Or.inl rfl | exact Or.inr rfl) (pe_m c_U_failing_until hr (by decide) (pv 0) (pa_cons (pv 2) pa_nil)))
      (pss_one (ps_if (pt_cmpR op_gt (pv 3) (pv 2) (nomark _)) (pss_one (ps_expr (pe_m c_U_skip_to hr (by decide) (pv 0) (pa_cons (pv 3) pa_nil)))) (pss_one (ps_if (pt_val (pe_m c_U_is_repeated hr (by decide) (pv 0) (pa_cons (pv 2) pa_nil))) (pss_one (ps_expr (pe_m c_U_close hr (by decide) (pv 0) (pa_cons (pv 2) pa_nil)))) (pss_one (ps_expr (pe_m c_U_decide hr (by decide) (pv 0) (pa_cons (pv 2) (pa_cons (pe_lock (pe_lc (own := [("client", 4), ("its_slot", 6)]) (g := (gTup K 2 (gCons (gName 4) (gCons (gName 6) gNil)))) rfl sc_Run_advance.nd (pi_items (pv 1)) (blkOk_by (own := [("client", 4), ("its_slot", 6)]) (N := ["self", "slots", "slot", "end", "client", "its", "its_slot"]) (sc := defScope s_Run_advance) (by decide +kernel)) (fun _ _ _ _ _ => (pg_tup rfl (pgs_cons (pg_name (i := 4) sc_Run_advance.nd rfl (by first | exact Or.inl rfl | exact Or.inr rfl)) (pgs_cons (pg_name (i := 6) sc_Run_advance.nd rfl (by first | exact Or.inl rfl | exact Or.inr rfl)) pgs_nil)))) (fun _ _ _ _ _ => (pts_one (pt_cmpR op_eq (pv 6) (pv 2) (nomark _)))) (fun _ _ _ _ _ => (pv 4)))) pa_nil))))))))))))), ?_⟩
    have glen := g.len
    have hXX := XB_hi st.wait.length
    have hw60 := ok.w60
    -- slots
    refine ⟨wt, _, hX.hwt, trivial, fun od => ?_⟩
    have hrvf : Rv K (upd H wt (.frz od (.dK (st.wait.map wkv)))) u s p bg cg S chg st.free := hX.rv.updD hX.hwt
    have hwl : (st.wait.map wkv).length = st.wait.length := List.length_map ..
    refine ⟨_, rfl, _, (hX.fwt T).updD hX.hwt, wt, od, _, rfl, upd_same, fun D hD => dc_it walk_items (fun i H' => Same (upd H wt (.frz od (.dK (st.wait.map wkv)))) H' ∧ H' D = some (.dK ((st.wait.take i).map (skv S)))) ?_ ?_ ?_ ?_⟩
    · exact ⟨same_new hD, by rw [upd_same]; rfl⟩
    · rintro i H' _ ⟨s1, _⟩
      exact s1 _ _ upd_same
    · rintro i x H1 H2 hi ⟨s1, hd1⟩ ⟨Ta, x1, y1, rfl, hT, rfl, hx1, hy1⟩
      rw [hwl] at hi
      have hq : st.wait[i]? = some st.wait[i] := List.getElem?_eq_getElem hi
      generalize hqe : st.wait[i] = q at hq
      have hqm := List.mem_of_getElem? hq
      have ex1 : x1 = .int (q.1 : Nat) := by
        have : ((st.wait.map wkv)[i]?.map fun kv => kV kv.1) = some x1 := hx1
        rw [List.getElem?_map, hq] at this
        exact (Option.some.inj this).symm
      have ey1 : y1 = .int (q.2 : Nat) := by
        have : ((st.wait.map wkv)[i]?.map Prod.snd) = some y1 := hy1
        rw [List.getElem?_map, hq] at this
        exact (Option.some.inj this).symm
      subst ex1 ey1
      have s2 : Same H1 (upd H1 Ta (.tup [V.int (q.1 : Nat), V.int (q.2 : Nat)])) := same_new hT
      have hrv2 := hrvf.mono (s1.trans s2)
      have hlq := g.lt q hqm
      refine ⟨Ta, _, rfl, SqT.of upd_same, rfl, _, _, rfl, _, _, rfl, rfl, rfl, ?_⟩
      refine yes_k ?_
      refine ⟨_, rfl, _, rfl, _, hrv2.fbeg T, _, rfl, bg, _, _, _, rfl, rfl, SqL.of hrv2.hbg, atI_nat (ss_at hlq.1), _, rfl, _, hrv2.fpat T, hrv2.scene.rule.md mR_offset_of, _, rfl, p, S.R, q.2, rfl, hrv2.scene.rule, hlq.2.1, fun b e => (by have := g.tim ok hqm b e; omega), _, _, rfl, rfl, ?_⟩
      have hd2 := s2 _ _ hd1
      refine ⟨_, .inl (q.1 : Int), rfl, hd2, szLt (by rw [List.length_map, List.length_take]; omega), same_mu (s1.trans s2) hD, ?_⟩
      have hnew : valV ((st.wait.take i).map (skv S)) (.inl (q.1 : Int)) = none := valV_notin fun hm => by
        obtain ⟨kv, hkv, e⟩ := List.mem_map.mp hm
        obtain ⟨z, hz, rfl⟩ := List.mem_map.mp hkv
        have e2 : z.1 = q.1 := inl_nat.mp e
        obtain ⟨j, hj⟩ := List.mem_iff_getElem?.mp hz
        rw [List.getElem?_take] at hj
        split at hj
        · rename_i hji
          obtain ⟨b1, c1⟩ := List.getElem?_eq_some_iff.mp hj
          obtain ⟨b2, c2⟩ := List.getElem?_eq_some_iff.mp hq
          have hp := List.pairwise_map.mp (List.nodup_iff_pairwise_ne.mp g.nd)
          have := List.pairwise_iff_getElem.mp hp j i b1 b2 hji
          rw [c1, c2] at this
          exact this e2
        · cases hj
      rw [upd_same, putK_new _ hnew, List.take_add_one, hq, List.map_append]
      rfl
    intro H1 ⟨s1, hd1⟩
    rw [hwl, List.take_length] at hd1
    obtain ⟨sth, hfz⟩ := Same.thaw hX.hwt s1
    refine ⟨hfz, ?_⟩
    have hnD : D ≠ wt := fun e => by rw [e] at hD; rw [upd_same] at hD; cases hD
    have hX1 := hX.mono sth
    have hd2 : (upd H1 wt (.dK (st.wait.map wkv))) D = some (.dK (st.wait.map (skv S))) := by rw [upd_ne hnD, hd1]
    generalize hH2 : upd H1 wt (.dK (st.wait.map wkv)) = H2 at hX1 hd2 sth
    have hD0 : H0 D = none := by
      have h1 : H D = none := by rw [upd_ne hnD] at hD; exact hD
      exact same_mem hX.same h1
    -- slot
    refine ⟨_, rfl, D, _, st.wait.map S.slot, rfl, hd2, by rw [List.map_map, List.map_map]; rfl, fun z => hne (List.map_eq_nil_iff.mp z), fun t ht htm => ?_⟩
    have hmin : IsMin S st.wait t := ⟨by
      obtain ⟨q, hq, e⟩ := List.mem_map.mp ht
      exact ⟨q, hq, e⟩, fun q hq => htm _ (List.mem_map_of_mem hq)⟩
    have htoa := g.min_ge ok hmin
    have hmoa : S.oa ∈ chg := (hmom.mem _).mpr (.inr (.inl rfl))
    have hex : ∃ y ∈ chg, y ≤ t := ⟨_, hmoa, htoa⟩
    have hchl := hmom.len
    have htX : t ≤ S.oa + 5 * XB st.wait.length + 1000 := by
      obtain ⟨q, hq, e⟩ := hmin.mem
      have h1 := g.lt q hq
      have h2 := ok.at_ h1.1
      have h3 := XB_lo st.wait.length
      unfold Sc.slot at e
      omega
    -- end
    refine ⟨_, rfl, hX1.rv.md mU_failing_until, _, rfl, u, s, p, bg, cg, S, chg, st.free, t, rfl, hX1.rv, fun H3 s3 => ?_⟩
    have hX3 := hX1.mono s3
    have hfr := g.fr
    refine ⟨_, rfl, _, rfl, _, _, rfl, rfl, _, rfl, ite2 (fun hc => ?_) (fun hc => ?_)⟩
    · have hlt : t < failTo S st.free t := of_decide_eq_true hc
      have he : (t < st.free ∧ failTo S st.free t = st.free) ∨ (st.free ≤ t ∧ S.out t = true ∧ failTo S st.free t = S.ob) := by
        unfold failTo at hlt ⊢
        by_cases h1 : t < st.free
        · exact .inl ⟨h1, if_pos h1⟩
        · rw [if_neg h1] at hlt ⊢
          by_cases h2 : S.out t = true
          · exact .inr ⟨by omega, h2, if_pos h2⟩
          · rw [if_neg h2] at hlt; omega
      refine ⟨_, rfl, hX3.rv.md mU_skip_to, _, rfl, u, s, p, bg, cg, sv, cl, wt, S, chg, st, H0, _, rfl, hX3, g.nd, fun q hq => (g.lt q hq).1, by omega, fun q hq b e => ?_, fun H' hX' => k H' _ (Adv.skip hmin he) hX'⟩
      have h1 := ok.at_ (g.lt q hq).1
      rcases he with ⟨_, h2⟩ | ⟨_, _, h2⟩
      · rw [h2]; omega
      · rw [h2]; omega
    have hge : failTo S st.free t ≤ t := by
      have : ¬ t < failTo S st.free t := fun z => hc (decide_eq_true z)
      omega
    have hff : st.free ≤ t ∧ S.out t = false := by
      unfold failTo at hge
      by_cases h1 : t < st.free
      · rw [if_pos h1] at hge; omega
      · rw [if_neg h1] at hge
        refine ⟨by omega, ?_⟩
        cases h2 : S.out t with
        | false => rfl
        | true =>
          rw [h2, if_pos rfl] at hge
          unfold Sc.out at h2
          have := of_decide_eq_true h2
          omega
    refine ⟨_, rfl, hX3.rv.md mU_is_repeated, _, rfl, u, s, p, bg, cg, S, chg, st.free, t, rfl, hX3.rv, hex, hchl, fun H4 b s4 hb1 hb2 => ⟨b, rfl, ?_⟩⟩
    have hX4 := hX3.mono s4
    have hd4 := s4 _ _ (s3 _ _ hd2)
    cases b with
    | true =>
      obtain ⟨m, y, hrep, hlat, hper⟩ := hb1 rfl
      refine iteT ⟨_, rfl, hX4.rv.md mU_close, _, rfl, u, s, p, bg, cg, sv, cl, wt, S, chg, st, H0, t, m, rfl, hX4, g, hrep, hex, hchl, fun H' y' hlat' hX' => ?_⟩
      rw [hlat'.uniq hlat] at hX'
      exact k H' _ (Adv.close hmin hrep hlat hper) hX'
    | false =>
      have hr0 := hb2 rfl
      refine iteF ⟨_, rfl, hX4.rv.md mU_decide, _, rfl, ?_⟩
      refine ⟨D, _, hd4, trivial, fun od2 => ?_⟩
      have hsl : (st.wait.map (skv S)).length = st.wait.length := List.length_map ..
      refine ⟨_, rfl, D, od2, _, rfl, upd_same, fun L hL => lc_pure walk_items (fun i => atSlot S t (st.wait.getD i (0, 0))) (fun i v _ => v = .int ((st.wait.getD i (0, 0)).1 : Nat)) (fun _ _ _ _ _ h => h) hL (by omega) (fun H2 e => e _ _ upd_same) ?_ ?_⟩
      · rintro i x H5 H6 Ky Kn hi s5 ⟨Ta, x1, y1, rfl, hT, rfl, hx1, hy1⟩ hy hn
        rw [hsl] at hi
        have hq : st.wait[i]? = some st.wait[i] := List.getElem?_eq_getElem hi
        generalize hqe : st.wait[i] = q at hq
        rw [getD_of hq] at hy hn
        have ex1 : x1 = .int (q.1 : Nat) := by
          have : ((st.wait.map (skv S))[i]?.map fun kv => kV kv.1) = some x1 := hx1
          rw [List.getElem?_map, hq] at this
          exact (Option.some.inj this).symm
        have ey1 : y1 = .int (S.slot q) := by
          have : ((st.wait.map (skv S))[i]?.map Prod.snd) = some y1 := hy1
          rw [List.getElem?_map, hq] at this
          exact (Option.some.inj this).symm
        subst ex1 ey1
        have s6 : Same H5 (upd H5 Ta (.tup [V.int (q.1 : Nat), V.int (S.slot q)])) := same_new hT
        refine ⟨Ta, _, rfl, SqT.of upd_same, rfl, _, _, rfl, _, _, rfl, rfl, rfl, ?_⟩
        refine ⟨_, rfl, _, rfl, rfl, _, rfl, ?_⟩
        have hdec : decide (V.int (S.slot q) = V.int t) = atSlot S t q := by
          unfold atSlot
          by_cases h : S.slot q = t
          · rw [decide_eq_true h, decide_eq_true (congrArg V.int h)]
          · rw [decide_eq_false h, decide_eq_false fun z => h (by injection z)]
        rw [hdec]
        refine ite2 (fun hc => ?_) (fun hc => ?_)
        · exact ⟨_, rfl, hy hc _ _ rfl s6⟩
        · exact hn (by simpa using hc) _ s6
      · intro H5 acc s5 hL5 hm5
        have hacc := Made.fn (H := H5) (f := fun i => V.int ((st.wait.getD i (0, 0)).1 : Nat)) hm5
        rw [hsl, keep_map (0, 0) (atSlot S t) (fun q : Nat × Nat => V.int (q.1 : Nat))] at hacc
        have hacc2 : acc = ((st.wait.filter (atSlot S t)).map (·.1)).map fun c : Nat => V.int (c : Int) := by rw [hacc, List.map_map]; rfl
        obtain ⟨sth2, hfz2⟩ := Same.thaw hd4 s5
        have hnL : L ≠ D := fun e => by rw [e, hfz2] at hL5; cases hL5
        refine ⟨hfz2, ?_⟩
        have hL0 : H0 L = none := by
          have h1 : H4 L = none := by rw [upd_ne hnL] at hL; exact hL
          exact same_mem hX4.same h1
        have hL6 : (upd H5 D (.dK (st.wait.map (skv S)))) L = some (.lst (((st.wait.filter (atSlot S t)).map (·.1)).map fun c : Nat => V.int (c : Int))) := by rw [upd_ne hnL, hL5, hacc2]
        have hX6 := (hX4.mono sth2).know hL6 hL0
        exact ⟨u, s, p, bg, cg, sv, cl, wt, L, S, chg, st, _, t, _, rfl, hX6, g, ok, hmin, rfl, upd_same, hff.2, hr0, by omega, fun H' st' hadv hX' => k H' st' hadv (hX'.weaken (same_new hL0) hX.scene hX.hbg hX.hcg)⟩
end
end My
set_option Elab.async false
set_option linter.all false
set_option maxRecDepth 100000
set_option maxHeartbeats 4000000
namespace My
open PySem PySem.Spec PyProof.Rows L2
section
variable {P : Program} {w : World} {K : PySem.W.Frag} {mg : Str → Option Value} {base : Heap}
/-- a run that has come to its end -/
def FinAt (K : PySem.W.Frag) (H : Hp) (u s p : Addr) (S : Sc) : Prop := ∃ (bg cg sv cl wt : Addr) (chg : List Int) (st : RSt) (Hb : Hp), RunX K Hb H u s p bg cg sv cl wt S chg st ∧ Good S st
theorem FinAt.mono {H H' : Hp} {u s p : Addr} {S : Sc} (e : Same H H') (h : FinAt K H u s p S) : FinAt K H' u s p S := by
  obtain ⟨bg, cg, sv, cl, wt, chg, st, Hb, h1, h2⟩ := h
  exact ⟨bg, cg, sv, cl, wt, chg, st, Hb, h1.mono e, h2⟩
def sp_Run_init (K : PySem.W.Frag) : Sp := fun vs H Q _ => ∃ (u dx s p : Addr) (S : Sc), vs = [.ref u, .ref s] ∧ H u = some (.ins (cU K) dx []) ∧ SceneAt K H s p S ∧ S.Ok ∧
  ∀ H', (∀ b o, H b = some o → b ≠ u → H' b = some o) → FinAt K H' u s p S → Q .non H'
def Keep (H : Hp) (u : Addr) (H' : Hp) : Prop := ∀ b o, H b = some o → b ≠ u → H' b = some o
theorem Keep.own {H H' : Hp} {u : Addr} {o : HO} (h : Keep H u H') : Keep H u (upd H' u o) := fun b x hb nb => by rw [upd_ne nb]; exact h b x hb nb
theorem Keep.new {H H' : Hp} {u l : Addr} {o : HO} (h : Keep H u H') (hl : H' l = none) : Keep H u (upd H' l o) := fun b x hb nb => by
  have := h b x hb nb
  rw [upd_ne (ne_of_none this hl)]; exact this
theorem Keep.same {H H' H2 : Hp} {u : Addr} (h : Keep H u H') (s : Same H' H2) : Keep H u H2 := fun b x hb nb => s _ _ (h b x hb nb)
theorem SceneAt.keep {H H' : Hp} {s p u dx : Addr} {S : Sc} (hu : H u = some (.ins (cU K) dx [])) (e : Keep H u H') (h : SceneAt K H s p S) : SceneAt K H' s p S := by
  obtain ⟨dx1, l, w, q, h1, h2, h3, h4⟩ := h.ex
  obtain ⟨dx2, rl, rt, rs, r1, r2, r3, r4⟩ := h.rule.ex
  have nl : ∀ {b xs}, H b = some (.lst xs) → b ≠ u := fun hb => ne_of hb hu (by intro z; cases z)
  have nt : ∀ {b xs}, H b = some (.tup xs) → b ≠ u := fun hb => ne_of hb hu (by intro z; cases z)
  have n1 : s ≠ u := fun z => by rw [z, hu] at h1; injection h1 with h1; injection h1 with e1 e2 e3; cases e3
  have n2 : p ≠ u := fun z => by rw [z, hu] at r1; injection r1 with r1; injection r1 with e1 e2 e3; cases e3
  exact ⟨⟨h.rule.ok, dx2, rl, rt, rs, e _ _ r1 n2, e _ _ r2 (nl r2), e _ _ r3 (nt r3), e _ _ r4 (nl r4)⟩, dx1, l, w, q, e _ _ h1 n1, e _ _ h2 (nl h2), e _ _ h3 (nl h3), e _ _ h4 (nt h4)⟩
def uniqC (S : Sc) (c : Nat) : Bool := decide (((List.range S.ss.length).filter fun o => decide (S.at o = S.at c)).length ≤ 1)
def st0 (S : Sc) (y : Int) (i : Nat) : RSt := ⟨((List.range i).filter (uniqC S)).map fun c => (c, 0), (List.range i).filter fun c => !uniqC S c, [], y⟩
theorem st0_good {S : Sc} (ok : S.Ok) {y : Int} (hy : y ≤ S.oa + 139) : Good S (st0 S y S.ss.length) := by
  have hk : (((List.range S.ss.length).filter (uniqC S)).map fun c => (c, 0)).map (·.1) = (List.range S.ss.length).filter (uniqC S) := by
    rw [List.map_map]
    exact List.map_id _
  have n6 := ok.n6
  have hsum : ((List.range S.ss.length).filter fun c => !uniqC S c).length + ((List.range S.ss.length).filter (uniqC S)).length = S.ss.length := by
    have h1 := List.length_eq_countP_add_countP (uniqC S) (l := List.range S.ss.length)
    rw [List.countP_eq_length_filter, List.countP_eq_length_filter, List.length_range] at h1
    have e : ((List.range S.ss.length).filter fun q => decide (¬uniqC S q = true)) = (List.range S.ss.length).filter (fun q => !uniqC S q) := List.filter_congr fun q _ => by cases uniqC S q <;> rfl
    rw [e] at h1
    omega
  have hX := XB_lo (st0 S y S.ss.length).wait.length
  have hmem : ∀ q ∈ (st0 S y S.ss.length).wait, q.1 < S.ss.length ∧ q.2 = 0 ∧ uniqC S q.1 = true := fun q hq => by
    obtain ⟨c, hc, rfl⟩ := List.mem_map.mp hq
    obtain ⟨h1, h2⟩ := List.mem_filter.mp hc
    exact ⟨List.mem_range.mp h1, rfl, h2⟩
  refine ⟨?_, fun q hq => ?_, fun q hq c' h1 h2 h3 => ?_, fun c hc => ?_, fun z hz => absurd hz List.not_mem_nil, ?_, ?_, ?_⟩
  · show ((((List.range S.ss.length).filter (uniqC S)).map fun c => (c, 0)).map (·.1)).Nodup
    rw [hk]
    exact List.nodup_range.sublist List.filter_sublist
  · obtain ⟨g1, g2, g3⟩ := hmem q hq
    refine ⟨g1, by unfold Ru.has; rw [g2]; simp, ?_⟩
    rw [g2]
    show (0 : Int) ≤ _
    omega
  · obtain ⟨g1, g2, g3⟩ := hmem q hq
    have h4 := of_decide_eq_true g3
    have m1 : q.1 ∈ (List.range S.ss.length).filter fun o => decide (S.at o = S.at q.1) := List.mem_filter.mpr ⟨List.mem_range.mpr g1, decide_eq_true rfl⟩
    have m2 : c' ∈ (List.range S.ss.length).filter fun o => decide (S.at o = S.at q.1) := List.mem_filter.mpr ⟨List.mem_range.mpr h1, decide_eq_true h3⟩
    generalize (List.range S.ss.length).filter (fun o => decide (S.at o = S.at q.1)) = l at *
    cases l with
    | nil => cases m1
    | cons x l =>
      cases l with
      | nil =>
        rw [List.mem_singleton] at m1 m2
        exact h2 (m2.trans m1.symm)
      | cons z l => simp at h4
  · obtain ⟨h1, h2⟩ := List.mem_filter.mp hc
    refine ⟨List.mem_range.mp h1, ?_⟩
    show c ∉ (((List.range S.ss.length).filter (uniqC S)).map fun c => (c, 0)).map (·.1)
    rw [hk]
    intro h3
    have := (List.mem_filter.mp h3).2
    rw [this] at h2
    cases h2
  · show y ≤ _
    omega
  · show ((List.range S.ss.length).filter fun c => !uniqC S c).length + (((List.range S.ss.length).filter (uniqC S)).map fun c => (c, 0)).length ≤ 6
    rw [List.length_map]
    omega
  · show 0 + (((List.range S.ss.length).filter (uniqC S)).map fun c => (c, 0)).length ≤ 6
    rw [List.length_map]
    omega
theorem st0_yes {S : Sc} {y : Int} {i : Nat} (h : uniqC S i = true) : st0 S y (i + 1) = { st0 S y i with wait := (st0 S y i).wait ++ [(i, 0)] } := by
  unfold st0
  rw [rangeF_succ, if_pos h, rangeF_succ, if_neg (by rw [h]; decide), List.map_append, List.append_nil]
  rfl
theorem st0_no {S : Sc} {y : Int} {i : Nat} (h : uniqC S i = false) : st0 S y (i + 1) = { st0 S y i with closed := (st0 S y i).closed ++ [i] } := by
  unfold st0
  rw [rangeF_succ, if_neg (by rw [h]; decide), rangeF_succ, if_pos (by rw [h]; rfl), List.append_nil]
theorem st0_keys {S : Sc} {y : Int} {i : Nat} : (∀ q ∈ (st0 S y i).wait, q.1 < i) ∧ (∀ c ∈ (st0 S y i).closed, c < i) ∧ (st0 S y i).wait.length ≤ i ∧ (st0 S y i).closed.length ≤ i := by
  refine ⟨fun q hq => ?_, fun c hc => List.mem_range.mp (List.mem_filter.mp hc).1, ?_, ?_⟩
  · obtain ⟨c, hc, rfl⟩ := List.mem_map.mp hq
    exact List.mem_range.mp (List.mem_filter.mp hc).1
  · show (((List.range i).filter (uniqC S)).map fun c => (c, 0)).length ≤ i
    rw [List.length_map]
    have := List.length_filter_le (uniqC S) (List.range i)
    rwa [List.length_range] at this
  · have := List.length_filter_le (fun c => !uniqC S c) (List.range i)
    rwa [List.length_range] at this
theorem sc_Run_init : FnScope ["self", "scene", "client", "start", "equal", "other", "its_start"] ["self", "scene"] (defScope s_Run_init) := ⟨rfl, rfl, rfl, by decide +kernel, rfl, by decide +kernel, by decide +kernel⟩
theorem ok_Run_init {f : Addr} {fd : FuncData} (F : FunD K "__init__" "Run.__init__" (defArgs s_Run_init) (defBody s_Run_init) (defScope s_Run_init) [] [] f fd) (T : Txt K mg) (c_S_moments : C8.Met P w K mg base 4 (cS K) "moments" (sp_Scene_moments K) []) (c_S_rule : C8.Met P w K mg base 1 (cS K) "rule" (sp_Scene_rule K) []) (c_S_starts : C8.Met P w K mg base 1 (cS K) "starts" (sp_Scene_starts K) []) (c_U_advance : C8.Met P w K mg base 6 (cU K) "advance" (sp_Run_advance K) []) :
    FnOk P w K mg base CX0 7 f fd ["self", "scene"] (lockSp 2 (sp_Run_init K)) := by
  refine F.ok sc_Run_init (fun vs H Q E h => ?_) (fun cdv A outer s H vs Q E hr h => ?_)
  · exact h.1
  · have hu := hu_of hr
    obtain ⟨_, d0, xs0, hd0, h⟩ := h
    refine ⟨_, PSs.nox (pss_lock (pss_cons (ps_if (pt_not (pt_val (pe_callB (C8.call_isC T.iS) (by rfl) T.f_isinstance (by decide +kernel) (pa_cons (pv 1) (pa_cons (pe_glob (v := .ref (cS K)) rfl T.gS rfl) pa_nil))))) (pss_one ps_never) pss_nil)
      (pss_cons (ps_fld (pv 0) (pv 1) rfl)
      (pss_cons (ps_fld (pv 0) (pe_m0 c_S_rule hr (by decide) (pv 1)) rfl)
      (pss_cons (ps_fld (pv 0) (pe_m0 c_S_starts hr (by decide) (pv 1)) rfl)
      (pss_cons (ps_fld (pv 0) (pe_m0 c_S_moments hr (by decide) (pv 1)) rfl)
      (pss_cons (ps_fld (pv 0) pe_dnewK rfl)
      (pss_cons (ps_fld (pv 0) pe_dnewK rfl)
      (pss_cons (ps_fld (pv 0) pe_dnewK rfl)
      (pss_cons (ps_fld (pv 0) (pe_ix ix_list (pe_f (pv 0)) pe_int (fun _ _ => rfl)) rfl)
      (pss_cons (ps_for PassesOwn.never rfl (pi_enum (by rfl) T.f_enumerate (pa_cons (pe_f (pv 0)) pa_nil)) (pg_tup rfl (pgs_cons (pg_name (i := 2) sc_Run_init.nd rfl (by first | exact Or.inl rfl | exact Or.inr rfl)) (pgs_cons (pg_name (i := 3) sc_Run_init.nd rfl (by first | exact Or.inl rfl | exact Or.inr rfl)) pgs_nil))) (pss_cons (ps_setLc (i := 4) (own := [("other", 5), ("its_start", 6)]) (g := (gTup K 2 (gCons (gName 5) (gCons (gName 6) gNil)))) rfl sc_Run_init.nd rfl rfl (sw_true rfl rfl rfl (by decide +kernel)) (pi_enum (by rfl) T.f_enumerate (pa_cons (pe_f (pv 0)) pa_nil)) (blkOk_by (own := [("other", 5), ("its_start", 6)]) (N := ["self", "scene", "client", "start", "equal", "other", "its_start"]) (sc := defScope s_Run_init) (by decide +kernel)) (fun _ _ _ _ _ => (pg_tup rfl (pgs_cons (pg_name (i := 5) sc_Run_init.nd rfl (by first | exact Or.inl rfl | exact Or.inr rfl)) (pgs_cons (pg_name (i := 6) sc_Run_init.nd rfl (by first | exact Or.inl rfl | exact Or.inr rfl)) pgs_nil)))) (fun _ _ _ _ _ => (pts_one (pt_cmpR op_eq (pv 6) (pv 3) (nomark _)))) (fun _ _ _ _ _ => (pv 5)))
      (pss_one (ps_if (pt_cmpR op_gt (pe_callB call_len_seq (by rfl) T.f_len (by decide +kernel) (pa_cons (pv 4) pa_nil)) pe_int (nomark _)) (pss_one (ps_dput hu (pe_f (pv 0)) (pv 2) (pe_tup (pa_cons (pv 3) (pa_cons (pv 4) pa_nil))) rfl)) (pss_one (ps_dput hu (pe_f (pv 0)) (pv 2) pe_int rfl))))))
      (pss_one (ps_while PassesOwn.never (pt_cmpR (op_ne0 (Nat.lt_of_succ_lt hu)) (pe_f (pv 0)) pe_dnewK (nomark _)) (pss_one (ps_expr (pe_m0 c_U_advance hr (by decide) (pv 0))))))))))))))))), ⟨d0, _, hd0, trivial, fun od => ?_⟩⟩
    have h := h od
    generalize upd H d0 (.frz od (.lst xs0)) = H at h ⊢
    obtain ⟨u, dx, s, p, S, rfl, hu0, hS, ok, k⟩ := h
    have n6 := ok.n6
    have n1 := ok.n1
    obtain ⟨sdx, sl, sw, sq, hs1, _⟩ := hS.ex
    refine ⟨_, rfl, s, _, _, rfl, hs1, true, rfl, iteF ?_⟩
    refine ⟨_, rfl, _, rfl, u, _, dx, [], rfl, hu0, T.clU, T.nU_its_scene, (by show 0 < 1000; decide), ?_⟩
    have k1 : Keep H u (upd H u (.ins (cU K) dx (putF "its_scene" (.ref s) []))) := Keep.own fun b o hb _ => hb
    have u1 : (upd H u (.ins (cU K) dx (putF "its_scene" (.ref s) []))) u = some (.ins (cU K) dx (putF "its_scene" (.ref s) [])) := upd_same
    generalize upd H u (.ins (cU K) dx (putF "its_scene" (.ref s) [])) = H1 at k1 u1
    have hS1 := hS.keep hu0 k1
    refine ⟨_, rfl, hS1.md mS_rule, s, p, S, rfl, hS1, _, rfl, u, _, dx, _, rfl, u1, T.clU, T.nU_pattern, (by show 1 < 1000; decide), ?_⟩
    have k2 := k1.own (o := .ins (cU K) dx (putF "pattern" (.ref p) (putF "its_scene" (.ref s) [])))
    have u2 : (upd H1 u (.ins (cU K) dx (putF "pattern" (.ref p) (putF "its_scene" (.ref s) [])))) u = some (.ins (cU K) dx (putF "pattern" (.ref p) (putF "its_scene" (.ref s) []))) := upd_same
    generalize upd H1 u (.ins (cU K) dx (putF "pattern" (.ref p) (putF "its_scene" (.ref s) []))) = H2 at k2 u2
    have hS2 := hS.keep hu0 k2
    refine ⟨_, rfl, hS2.md mS_starts, s, p, S, rfl, hS2, fun bg hbg => ?_⟩
    have nbu : bg ≠ u := fun e => by rw [e, u2] at hbg; cases hbg
    refine ⟨_, rfl, u, _, dx, _, rfl, (by rw [upd_ne nbu.symm]; exact u2), T.clU, T.nU_begins, (by show 2 < 1000; decide), ?_⟩
    have k3 := (k2.new (o := .lst (S.ss.map V.int)) hbg).own (o := .ins (cU K) dx (putF "begins" (.ref bg) (putF "pattern" (.ref p) (putF "its_scene" (.ref s) []))))
    have u3 : (upd (upd H2 bg (.lst (S.ss.map V.int))) u (.ins (cU K) dx (putF "begins" (.ref bg) (putF "pattern" (.ref p) (putF "its_scene" (.ref s) []))))) u = some (.ins (cU K) dx (putF "begins" (.ref bg) (putF "pattern" (.ref p) (putF "its_scene" (.ref s) [])))) := upd_same
    have b3 : (upd (upd H2 bg (.lst (S.ss.map V.int))) u (.ins (cU K) dx (putF "begins" (.ref bg) (putF "pattern" (.ref p) (putF "its_scene" (.ref s) []))))) bg = some (.lst (S.ss.map V.int)) := by rw [upd_ne nbu, upd_same]
    generalize upd (upd H2 bg (.lst (S.ss.map V.int))) u (.ins (cU K) dx (putF "begins" (.ref bg) (putF "pattern" (.ref p) (putF "its_scene" (.ref s) [])))) = H3 at k3 u3 b3
    have hS3 := hS.keep hu0 k3
    refine ⟨_, rfl, hS3.md mS_moments, s, p, S, rfl, hS3, n6, fun cg chg H4 s4 hcg hmom => ?_⟩
    have k4 := k3.same s4
    have u4 := s4 _ _ u3
    have b4 := s4 _ _ b3
    have ncu : cg ≠ u := ne_of hcg u4 (by intro z; cases z)
    refine ⟨_, rfl, u, _, dx, _, rfl, u4, T.clU, T.nU_changes, (by show 3 < 1000; decide), ?_⟩
    have k5 := k4.own (o := .ins (cU K) dx (putF "changes" (.ref cg) (putF "begins" (.ref bg) (putF "pattern" (.ref p) (putF "its_scene" (.ref s) [])))))
    have u5 : (upd H4 u (.ins (cU K) dx (putF "changes" (.ref cg) (putF "begins" (.ref bg) (putF "pattern" (.ref p) (putF "its_scene" (.ref s) [])))))) u = some (.ins (cU K) dx (putF "changes" (.ref cg) (putF "begins" (.ref bg) (putF "pattern" (.ref p) (putF "its_scene" (.ref s) []))))) := upd_same
    have b5 : (upd H4 u (.ins (cU K) dx (putF "changes" (.ref cg) (putF "begins" (.ref bg) (putF "pattern" (.ref p) (putF "its_scene" (.ref s) [])))))) bg = some (.lst (S.ss.map V.int)) := by rw [upd_ne nbu]; exact b4
    have c5 : (upd H4 u (.ins (cU K) dx (putF "changes" (.ref cg) (putF "begins" (.ref bg) (putF "pattern" (.ref p) (putF "its_scene" (.ref s) [])))))) cg = some (.lst (chg.map V.int)) := by rw [upd_ne ncu]; exact hcg
    generalize upd H4 u (.ins (cU K) dx (putF "changes" (.ref cg) (putF "begins" (.ref bg) (putF "pattern" (.ref p) (putF "its_scene" (.ref s) []))))) = H5 at k5 u5 b5 c5
    -- the dicts
    refine fun sv hsv => ?_
    have nsu : sv ≠ u := fun e => by rw [e, u5] at hsv; cases hsv
    refine ⟨_, rfl, u, _, dx, _, rfl, (by rw [upd_ne nsu.symm]; exact u5), T.clU, T.nU_services, (by show 4 < 1000; decide), ?_⟩
    have F6 : ∃ f6, f6 = putF "services" (.ref sv) (putF "changes" (.ref cg) (putF "begins" (.ref bg) (putF "pattern" (.ref p) (putF "its_scene" (.ref s) [])))) := ⟨_, rfl⟩
    obtain ⟨f6, hf6⟩ := F6
    rw [← hf6]
    have k6 := (k5.new (o := .dK []) hsv).own (o := .ins (cU K) dx f6)
    have u6 : (upd (upd H5 sv (.dK [])) u (.ins (cU K) dx f6)) u = some (.ins (cU K) dx f6) := upd_same
    have b6 : (upd (upd H5 sv (.dK [])) u (.ins (cU K) dx f6)) bg = some (.lst (S.ss.map V.int)) := by rw [upd_ne nbu, upd_ne (ne_of_none b5 hsv)]; exact b5
    have c6 : (upd (upd H5 sv (.dK [])) u (.ins (cU K) dx f6)) cg = some (.lst (chg.map V.int)) := by rw [upd_ne ncu, upd_ne (ne_of_none c5 hsv)]; exact c5
    have d6 : (upd (upd H5 sv (.dK [])) u (.ins (cU K) dx f6)) sv = some (.dK []) := by rw [upd_ne nsu, upd_same]
    generalize upd (upd H5 sv (.dK [])) u (.ins (cU K) dx f6) = H6 at k6 u6 b6 c6 d6
    have l6 : f6.length < 1000 := by rw [hf6]; show 5 < 1000; decide
    refine fun cl hcl => ?_
    have nlu : cl ≠ u := fun e => by rw [e, u6] at hcl; cases hcl
    refine ⟨_, rfl, u, _, dx, _, rfl, (by rw [upd_ne nlu.symm]; exact u6), T.clU, T.nU_closed, l6, ?_⟩
    have F7 : ∃ f7, f7 = putF "closed" (.ref cl) f6 := ⟨_, rfl⟩
    obtain ⟨f7, hf7⟩ := F7
    rw [← hf7]
    have k7 := (k6.new (o := .dK []) hcl).own (o := .ins (cU K) dx f7)
    have u7 : (upd (upd H6 cl (.dK [])) u (.ins (cU K) dx f7)) u = some (.ins (cU K) dx f7) := upd_same
    have b7 : (upd (upd H6 cl (.dK [])) u (.ins (cU K) dx f7)) bg = some (.lst (S.ss.map V.int)) := by rw [upd_ne nbu, upd_ne (ne_of_none b6 hcl)]; exact b6
    have c7 : (upd (upd H6 cl (.dK [])) u (.ins (cU K) dx f7)) cg = some (.lst (chg.map V.int)) := by rw [upd_ne ncu, upd_ne (ne_of_none c6 hcl)]; exact c6
    have d7 : (upd (upd H6 cl (.dK [])) u (.ins (cU K) dx f7)) sv = some (.dK []) := by rw [upd_ne nsu, upd_ne (ne_of_none d6 hcl)]; exact d6
    have e7 : (upd (upd H6 cl (.dK [])) u (.ins (cU K) dx f7)) cl = some (.dK []) := by rw [upd_ne nlu, upd_same]
    have nsc : sv ≠ cl := ne_of_none d6 hcl
    generalize upd (upd H6 cl (.dK [])) u (.ins (cU K) dx f7) = H7 at k7 u7 b7 c7 d7 e7
    have l7 : f7.length < 1000 := by rw [hf7, hf6]; show 6 < 1000; decide
    refine fun wt hwt => ?_
    have nwu : wt ≠ u := fun e => by rw [e, u7] at hwt; cases hwt
    refine ⟨_, rfl, u, _, dx, _, rfl, (by rw [upd_ne nwu.symm]; exact u7), T.clU, T.nU_waiting, l7, ?_⟩
    have F8 : ∃ f8, f8 = putF "waiting" (.ref wt) f7 := ⟨_, rfl⟩
    obtain ⟨f8, hf8⟩ := F8
    rw [← hf8]
    have k8 := (k7.new (o := .dK []) hwt).own (o := .ins (cU K) dx f8)
    have u8 : (upd (upd H7 wt (.dK [])) u (.ins (cU K) dx f8)) u = some (.ins (cU K) dx f8) := upd_same
    have b8 : (upd (upd H7 wt (.dK [])) u (.ins (cU K) dx f8)) bg = some (.lst (S.ss.map V.int)) := by rw [upd_ne nbu, upd_ne (ne_of_none b7 hwt)]; exact b7
    have c8 : (upd (upd H7 wt (.dK [])) u (.ins (cU K) dx f8)) cg = some (.lst (chg.map V.int)) := by rw [upd_ne ncu, upd_ne (ne_of_none c7 hwt)]; exact c7
    have d8 : (upd (upd H7 wt (.dK [])) u (.ins (cU K) dx f8)) sv = some (.dK []) := by rw [upd_ne nsu, upd_ne (ne_of_none d7 hwt)]; exact d7
    have e8 : (upd (upd H7 wt (.dK [])) u (.ins (cU K) dx f8)) cl = some (.dK []) := by rw [upd_ne nlu, upd_ne (ne_of_none e7 hwt)]; exact e7
    have w8 : (upd (upd H7 wt (.dK [])) u (.ins (cU K) dx f8)) wt = some (.dK []) := by rw [upd_ne nwu, upd_same]
    have nsw : sv ≠ wt := ne_of_none d7 hwt
    have ncw : cl ≠ wt := ne_of_none e7 hwt
    generalize upd (upd H7 wt (.dK [])) u (.ins (cU K) dx f8) = H8 at k8 u8 b8 c8 d8 e8 w8
    have l8 : f8.length < 1000 := by rw [hf8, hf7, hf6]; show 7 < 1000; decide
    -- self.free_from = self.changes[0]
    have hchg0 : ∃ y0 ys, chg = y0 :: ys := by
      have hm : S.oa ∈ chg := (hmom.mem _).mpr (.inr (.inl rfl))
      cases hc : chg with
      | nil => rw [hc] at hm; cases hm
      | cons y0 ys => exact ⟨y0, ys, rfl⟩
    obtain ⟨y0, ys, hy0⟩ := hchg0
    have hlk : f8.lookup ("changes" : Str) = some (.ref cg) := by rw [hf8, hf7, hf6]; kernel_rfl
    refine ⟨_, rfl, _, ⟨u, _, dx, _, rfl, u8, T.clU, T.nU_changes, hlk⟩, cg, _, _, _, rfl, rfl, SqL.of c8, (show atI (chg.map V.int) 0 = some (V.int y0) from atI_n (j := 0) rfl (by rw [hy0]; rfl)), ?_⟩
    refine ⟨_, rfl, u, _, dx, _, rfl, u8, T.clU, T.nU_free_from, l8, ?_⟩
    have hf9 : putF "free_from" (.int y0) f8 = ufs s p bg cg sv cl wt y0 := by rw [hf8, hf7, hf6]; rfl
    rw [hf9]
    have k9 := k8.own (o := .ins (cU K) dx (ufs s p bg cg sv cl wt y0))
    have hy9 : y0 ≤ S.oa + 139 := hmom.le ok (by rw [hy0]; exact List.mem_cons_self ..)
    have Hb_def : ∃ Hb : Hp, Hb = fun b => if b = u ∨ b = sv ∨ b = cl ∨ b = wt then none else H8 b := ⟨_, rfl⟩
    obtain ⟨Hb, hHb⟩ := Hb_def
    have hbo : ∀ b o, H8 b = some o → b ≠ u → (∀ kvs, o ≠ .dK kvs) → Hb b = some o := fun b o hb nb hk => by
      rw [hHb]
      show (if b = u ∨ b = sv ∨ b = cl ∨ b = wt then none else H8 b) = _
      rw [if_neg ?_]
      · exact hb
      · rintro (z | z | z | z)
        · exact nb z
        · rw [z, d8] at hb; cases hb; exact hk _ rfl
        · rw [z, e8] at hb; cases hb; exact hk _ rfl
        · rw [z, w8] at hb; cases hb; exact hk _ rfl
    have hS8 := hS.keep hu0 k8
    have hXb : RunX K Hb (upd H8 u (.ins (cU K) dx (ufs s p bg cg sv cl wt y0))) u s p bg cg sv cl wt S chg (st0 S y0 0) := by
      obtain ⟨dx1, l1, w1, q1, h1, h2, h3, h4⟩ := hS8.ex
      obtain ⟨dx2, rl, rt, rs, r1, r2, r3, r4⟩ := hS8.rule.ex
      have nsu' : s ≠ u := fun z => by rw [z, hu0] at hs1; injection hs1 with hs1; injection hs1 with e1 e2 e3; cases e3
      have npu' : p ≠ u := fun z => by
        obtain ⟨_, _, _, _, r1, _⟩ := hS.rule.ex
        rw [z, hu0] at r1; injection r1 with r1; injection r1 with e1 e2 e3; cases e3
      have nl : ∀ {b xs}, H8 b = some (.lst xs) → b ≠ u := fun hb => ne_of hb u8 (by intro z; cases z)
      have nt : ∀ {b xs}, H8 b = some (.tup xs) → b ≠ u := fun hb => ne_of hb u8 (by intro z; cases z)
      have hn : ∀ b, b = u ∨ b = sv ∨ b = cl ∨ b = wt → Hb b = none := fun b h => by
        rw [hHb]
        exact if_pos h
      refine ⟨fun b o hb => ?_, ⟨⟨hS8.rule.ok, dx2, rl, rt, rs, hbo _ _ r1 npu' (fun _ z => by cases z), hbo _ _ r2 (nl r2) (fun _ z => by cases z), hbo _ _ r3 (nt r3) (fun _ z => by cases z), hbo _ _ r4 (nl r4) (fun _ z => by cases z)⟩, dx1, l1, w1, q1, hbo _ _ h1 nsu' (fun _ z => by cases z), hbo _ _ h2 (nl h2) (fun _ z => by cases z), hbo _ _ h3 (nl h3) (fun _ z => by cases z), hbo _ _ h4 (nt h4) (fun _ z => by cases z)⟩,
        hbo _ _ b8 nbu (fun _ z => by cases z), hbo _ _ c8 ncu (fun _ z => by cases z), ⟨dx, upd_same⟩, hn u (.inl rfl), hn sv (.inr (.inl rfl)), hn cl (.inr (.inr (.inl rfl))), hn wt (.inr (.inr (.inr rfl))), ⟨[], by rw [upd_ne nsu]; exact d8, .nil⟩, ⟨[], by rw [upd_ne nlu]; exact e8, rfl⟩, by rw [upd_ne nwu]; exact w8, nsc, nsw, ncw⟩
      rw [hHb] at hb
      have hb' : (if b = u ∨ b = sv ∨ b = cl ∨ b = wt then none else H8 b) = some o := hb
      split at hb'
      · cases hb'
      · rename_i hne
        rw [upd_ne fun e => hne (.inl e)]
        exact hb'
    have kb : Keep H u Hb := by
      intro b o hb nb
      have h9 := k8 b o hb nb
      rw [hHb]
      show (if b = u ∨ b = sv ∨ b = cl ∨ b = wt then none else H8 b) = _
      rw [if_neg ?_]
      · exact h9
      · rintro (z | z | z | z)
        · exact nb z
        · have := k5 b o hb nb
          rw [z, hsv] at this; cases this
        · have := k6 b o hb nb
          rw [z, hcl] at this; cases this
        · have := k7 b o hb nb
          rw [z, hwt] at this; cases this
    generalize upd H8 u (.ins (cU K) dx (ufs s p bg cg sv cl wt y0)) = H9 at hXb
    -- for client, start in enumerate(self.begins)
    have hbl : (S.ss.map V.int).length = S.ss.length := List.length_map ..
    refine ⟨_, rfl, _, hXb.rv.fbeg T, bg, _, rfl, SqL.of hXb.rv.hbg, for_it (walk_enum (K := K) (a := bg) (xs := S.ss.map V.int)) (fun i σ' H' => ∃ v2 v3 v4 v5 v6 : Option V, σ' = [some (.ref u), some (.ref s), v2, v3, v4, v5, v6] ∧ RunX K Hb H' u s p bg cg sv cl wt S chg (st0 S y0 i))
      ⟨none, none, none, none, none, rfl, hXb⟩ (fun i σ' H' _ ⟨_, _, _, _, _, _, h⟩ => SqL.of h.rv.hbg) ?_ ?_⟩
    · rintro i x σ' H1 H2 hi ⟨v2, v3, v4, v5, v6, rfl, hX⟩ ⟨Ta, x1, y1, rfl, hT, rfl, hx1, hy1⟩
      rw [hbl] at hi
      have ex1 : x1 = .int (i : Nat) := (Option.some.inj hx1).symm
      have ey1 : y1 = .int (S.at i) := Option.some.inj ((show (S.ss.map V.int)[i]? = some y1 from hy1).symm.trans (ss_at hi))
      subst ex1 ey1
      have s2 : Same H1 (upd H1 Ta (.tup [V.int (i : Nat), V.int (S.at i)])) := same_new hT
      have hX2 := hX.mono s2
      refine ⟨Ta, _, rfl, SqT.of upd_same, rfl, _, _, rfl, _, _, rfl, rfl, ?_⟩
      -- equal
      refine ⟨_, rfl, _, hX2.rv.fbeg T, bg, _, rfl, SqL.of hX2.rv.hbg, fun D hD => lc_pure (walk_enum (K := K) (a := bg) (xs := S.ss.map V.int)) (fun o => decide (S.at o = S.at i)) (fun o v _ => v = .int (o : Nat)) (fun _ _ _ _ _ h => h) hD (by omega) (fun H3 e => e.seq (SqL.of hX2.rv.hbg)) ?_ ?_⟩
      · rintro o x H3 H4 Ky Kn ho s3 ⟨Tb, x1, y1, rfl, hTb, rfl, hx1, hy1⟩ hy hn
        rw [hbl] at ho
        have ex1 : x1 = .int (o : Nat) := (Option.some.inj hx1).symm
        have ey1 : y1 = .int (S.at o) := Option.some.inj ((show (S.ss.map V.int)[o]? = some y1 from hy1).symm.trans (ss_at ho))
        subst ex1 ey1
        have s4 : Same H3 (upd H3 Tb (.tup [V.int (o : Nat), V.int (S.at o)])) := same_new hTb
        refine ⟨Tb, _, rfl, SqT.of upd_same, rfl, _, _, rfl, _, _, rfl, rfl, rfl, ?_⟩
        refine ⟨_, rfl, _, rfl, rfl, _, rfl, ?_⟩
        have hdec : decide (V.int (S.at o) = V.int (S.at i)) = decide (S.at o = S.at i) := by
          by_cases h : S.at o = S.at i
          · rw [decide_eq_true h, decide_eq_true (congrArg V.int h)]
          · rw [decide_eq_false h, decide_eq_false fun z => h (by injection z)]
        rw [hdec]
        refine ite2 (fun hc => ?_) (fun hc => ?_)
        · exact ⟨_, rfl, hy hc _ _ rfl s4⟩
        · exact hn (by simpa using hc) _ s4
      intro H3 acc s3 hD3 hm3
      have hX3 := hX2.mono s3
      have hacc : acc.length = ((List.range S.ss.length).filter fun o => decide (S.at o = S.at i)).length := by
        have := hm3.len
        rwa [hbl] at this
      obtain ⟨g1, g2, g3, g4⟩ := st0_keys (S := S) (y := y0) (i := i)
      refine ⟨_, rfl, D, _, rfl, .inl (SqL.of hD3), _, _, rfl, rfl, _, rfl, ?_⟩
      have hdec : decide ((1 : Int) < (acc.length : Int)) = !uniqC S i := by
        unfold uniqC
        rw [← hacc]
        by_cases h : acc.length ≤ 1
        · rw [decide_eq_true h, decide_eq_false (by omega)]; rfl
        · rw [decide_eq_false h, decide_eq_true (by omega)]; rfl
      rw [hdec]
      refine ite2 (fun hc => ?_) (fun hc => ?_)
      · have hun : uniqC S i = false := by simpa using hc
        refine ⟨_, rfl, _, rfl, by show 2 ≤ sizeLine; decide, fun tp htp => ?_⟩
        have hX4 := hX3.mono (same_new (o := .tup [V.int (S.at i), V.ref D]) htp)
        obtain ⟨clk, hck, hck2⟩ := hX4.hcl
        have hclen : clk.length = (st0 S y0 i).closed.length := by
          have := congrArg List.length hck2
          rwa [List.length_map, List.length_map] at this
        have hnew : valV clk (.inl (i : Int)) = none := valV_notin fun hm => by
          rw [hck2] at hm
          obtain ⟨c, hcm, e⟩ := List.mem_map.mp hm
          have e2 : c = i := inl_nat.mp e
          have := g2 c hcm
          omega
        refine ⟨_, rfl, _, hX4.fcl T, _, rfl, cl, _, rfl, .inl ⟨_, .inl (i : Int), hck, rfl, szLt (by omega), rfl⟩, ?_⟩
        refine ⟨_, _, _, _, _, rfl, ?_⟩
        rw [st0_no hun]
        refine hX4.setC hck (clk' := putK clk (.inl (i : Int)) (.ref tp)) (c := (st0 S y0 i).closed ++ [i]) ?_
        rw [putK_new _ hnew, List.map_append, hck2, List.map_append]
        rfl
      · have hun : uniqC S i = true := by simpa using hc
        have hnew : valV ((st0 S y0 i).wait.map wkv) (.inl (i : Int)) = none := valV_notin fun hm => by
          rw [List.map_map] at hm
          obtain ⟨q, hqm, e⟩ := List.mem_map.mp hm
          have e2 : q.1 = i := inl_nat.mp e
          have := g1 q hqm
          omega
        refine ⟨_, rfl, _, hX3.fwt T, _, rfl, wt, _, rfl, .inl ⟨_, .inl (i : Int), hX3.hwt, rfl, szLt (by rw [List.length_map]; omega), rfl⟩, ?_⟩
        refine ⟨_, _, _, _, _, rfl, ?_⟩
        rw [st0_yes hun]
        have := hX3.setW ((st0 S y0 i).wait ++ [(i, 0)])
        rw [List.map_append] at this
        rw [putK_new _ hnew]
        exact this
    · rintro σ' H1 ⟨v2, v3, v4, v5, v6, rfl, hX⟩
      rw [hbl] at hX
      -- while self.waiting != {}
      refine ⟨fun m σ' H' => ∃ st, σ' = [some (.ref u), some (.ref s), v2, v3, v4, v5, v6] ∧ RunX K Hb H' u s p bg cg sv cl wt S chg st ∧ Good S st ∧ m = rank S st, ⟨_, _, rfl, hX, st0_good ok hy9, rfl⟩, ?_⟩
      rintro m σ' H' ⟨st, rfl, hX1, g, rfl⟩
      refine ⟨_, rfl, _, hX1.fwt T, fun e he => ⟨wt, e, _, rfl, rfl, (by rw [upd_ne (ne_of_none hX1.hwt he)]; exact hX1.hwt), upd_same, _, rfl, ?_⟩⟩
      have hX2 := hX1.mono (same_new (o := .dK []) he)
      have hemp : (!(st.wait.map wkv).isEmpty) = !st.wait.isEmpty := by cases st.wait <;> rfl
      rw [hemp]
      refine ite2 (fun hc => ?_) (fun hc => ?_)
      · have hne : st.wait ≠ [] := fun z => by rw [z] at hc; cases hc
        refine ⟨fun σ2 H2 => ∃ st', σ2 = [some (.ref u), some (.ref s), v2, v3, v4, v5, v6] ∧ RunX K Hb H2 u s p bg cg sv cl wt S chg st' ∧ Good S st' ∧ rank S st' < rank S st, fun σ2 H2 ⟨st', e1, e2, e3, e4⟩ => ⟨_, e4, st', e1, e2, e3, rfl⟩, ?_⟩
        refine ⟨_, rfl, hX2.rv.md mU_advance, u, s, p, bg, cg, sv, cl, wt, S, chg, st, Hb, rfl, hX2, g, ok, hmom, hne, fun H3 st' hadv hX3 => ?_⟩
        obtain ⟨g', hlt⟩ := adv_good ok hmom g hadv
        exact ⟨st', rfl, hX3, g', hlt⟩
      · exact k _ (fun b o hb nb => hX2.same _ _ (kb b o hb nb)) ⟨bg, cg, sv, cl, wt, chg, st, Hb, hX2, g⟩
end
end My
set_option Elab.async false
set_option linter.all false
set_option maxRecDepth 100000
set_option maxHeartbeats 4000000
namespace My
open PySem PySem.Spec PyProof.Rows L2
section
variable {P : Program} {w : World} {K : PySem.W.Frag} {mg : Str → Option Value} {base : Heap}
def OutV (S : Sc) (vs : List V) : Prop := (∃ a z : Int, vs = [.str "served", .int a, .int z] ∧ S.ob ≤ z) ∨ vs = [.str "never"] ∨ vs = [.str "ended"]
def sp_Run_outcome (K : PySem.W.Frag) : Sp := fun vs H Q _ => ∃ (u s p : Addr) (S : Sc) (c : Nat), vs = [.ref u, .int c] ∧ FinAt K H u s p S ∧ c < S.ss.length ∧ ∀ H' t ys, Same H H' → H' t = some (.tup ys) → OutV S ys → Q (.ref t) H'
theorem sv_find {H : Hp} {c : Nat} : ∀ {svk : List (Key × V)} {zs : List (Nat × Nat × Int)}, Paired (SvG H) svk zs → valV svk (.inl (c : Int)) = none ∨ ∃ t z, valV svk (.inl (c : Int)) = some (.ref t) ∧ z ∈ zs ∧ H t = some (.tup [.int (z.2.1 : Nat), .int z.2.2])
  | _, _, .nil => .inl rfl
  | kv :: svk, z :: zs, .cons h tl => by
    obtain ⟨t, rfl, ht⟩ := h
    by_cases e : z.1 = c
    · exact .inr ⟨t, z, valV_pos (inl_nat.mpr e), List.mem_cons_self .., ht⟩
    · have e1 : valV ((Sum.inl (z.1 : Int), V.ref t) :: svk) (Sum.inl (c : Int) : Key) = valV svk (.inl (c : Int)) := valV_neg fun q => e (inl_nat.mp q)
      rw [e1]
      rcases sv_find (c := c) tl with h | ⟨t2, z2, h1, h2, h3⟩
      · exact .inl h
      · exact .inr ⟨t2, z2, h1, List.mem_cons_of_mem _ h2, h3⟩
theorem sc_Run_outcome : FnScope ["self", "client", "attempt", "slot"] ["self", "client"] (defScope s_Run_outcome) := ⟨rfl, rfl, rfl, by decide +kernel, rfl, by decide +kernel, by decide +kernel⟩
theorem ok_Run_outcome {f : Addr} {fd : FuncData} (F : FunD K "outcome" "Run.outcome" (defArgs s_Run_outcome) (defBody s_Run_outcome) (defScope s_Run_outcome) [] [] f fd) (T : Txt K mg) (c_R_attempts : C8.Met P w K mg base 1 (cR K) "attempts" (sp_Rule_attempts K) []) (c_S_check_client : C8.Met P w K mg base 3 (cS K) "check_client" (sp_Scene_check_client K) []) :
    FnOk P w K mg base CX0 4 f fd ["self", "client"] (sp_Run_outcome K) := by
  refine F.ok sc_Run_outcome (fun vs H Q E h => ?_) (fun cdv A outer s H vs Q E hr h => ?_)
  · obtain ⟨_, _, _, _, _, rfl, _⟩ := h
    rfl
  · have hu := hu_of hr
    obtain ⟨u, s, p, S, c, rfl, ⟨bg, cg, sv, cl, wt, chg, st, Hb, hX, g⟩, hc, k⟩ := h
    have hrv := hX.rv
    refine ⟨_, PSs.nox ((pss_cons (ps_expr (pe_m c_S_check_client hr (by decide) (pe_f (pv 0)) (pa_cons (pv 1) pa_nil)))
      (pss_cons (ps_if (pt_cmp (pc_din hu (pv 1) (pe_f (pv 0)))) (pss_cons (ps_asg (pe_dget hu (pe_f (pv 0)) (pv 1) (fun _ _ => rfl)) (pg_tup rfl (pgs_cons (pg_name (i := 2) sc_Run_outcome.nd rfl (by first | exact Or.inl rfl | exact Or.inr rfl)) (pgs_cons (pg_name (i := 3) sc_Run_outcome.nd rfl (by first | exact Or.inl rfl | exact Or.inr rfl)) pgs_nil))))
      (pss_one (ps_ret (pe_tup (pa_cons pe_str (pa_cons (pv 2) (pa_cons (pv 3) pa_nil))))))) pss_nil)
      (pss_one (ps_ret (pe_ifExp (pt_cmpR op_isN (pe_m0 c_R_attempts hr (by decide) (pe_f (pv 0))) pe_non (nomark _)) (pe_tup (pa_cons pe_str pa_nil)) (pe_tup (pa_cons pe_str pa_nil)))))))), ?_⟩
    refine ⟨_, rfl, _, hrv.fscene T, hrv.scene.md mS_check_client, _, rfl, s, p, S, c, rfl, hrv.scene, hc, ?_⟩
    obtain ⟨svk, hsv, hsv2⟩ := hX.hsv
    refine ⟨_, rfl, _, rfl, _, hX.fsv T, sv, _, rfl, DGet.k (k := .inl (c : Int)) hsv, _, rfl, ?_⟩
    rcases sv_find (c := c) hsv2 with h0 | ⟨t, z, h1, h2, h3⟩
    · rw [h0]
      refine iteF ?_
      refine ⟨_, rfl, _, hrv.fpat T, hrv.scene.rule.md mR_attempts, p, S.R, rfl, hrv.scene.rule, rfl, _, rfl, ?_⟩
      refine ite2 (fun hc => ?_) (fun hc => ?_)
      · exact ⟨by show 1 ≤ sizeLine; decide, fun t ht => k _ t _ (same_new ht) upd_same (.inr (.inl rfl))⟩
      · exact ⟨by show 1 ≤ sizeLine; decide, fun t ht => k _ t _ (same_new ht) upd_same (.inr (.inr rfl))⟩
    · rw [h1]
      refine iteT ?_
      refine ⟨_, rfl, _, hX.fsv T, _, rfl, sv, _, rfl, h1 ▸ DGet.k (k := .inl (c : Int)) hsv, t, _, rfl, SqT.of h3, rfl, _, _, rfl, _, _, rfl, rfl, ?_⟩
      exact ⟨_, rfl, _, rfl, by show 3 ≤ sizeLine; decide, fun t2 ht2 => k _ t2 _ (same_new ht2) upd_same (.inl ⟨_, _, rfl, (g.sv z h2).2.1⟩)⟩
def sp_Run_outcomes (K : PySem.W.Frag) : Sp := fun vs H Q _ => ∃ (u s p : Addr) (S : Sc), vs = [.ref u] ∧ FinAt K H u s p S ∧ S.ss.length ≤ 6 ∧ ∀ H' l ys, Same H H' → H' l = some (.lst ys) → ys.length ≤ 6 → (∀ y ∈ ys, ∃ t zs, y = .ref t ∧ H' t = some (.tup zs) ∧ OutV S zs) → Q (.ref l) H'
theorem Made.all {P : V → Hp → Prop} {H : Hp} : ∀ {acc : List V} {is : List Nat}, Made (fun _ y H => P y H) H acc is → ∀ y ∈ acc, P y H
  | _, _, .nil, y, hy => absurd hy List.not_mem_nil
  | _, _, .cons h t, y, hy => by
    rcases List.mem_cons.mp hy with e | hy
    · rw [e]; exact h
    · exact Made.all t y hy
theorem sc_Run_outcomes : FnScope ["self", "client"] ["self"] (defScope s_Run_outcomes) := ⟨rfl, rfl, rfl, by decide +kernel, rfl, by decide +kernel, by decide +kernel⟩
theorem ok_Run_outcomes {f : Addr} {fd : FuncData} (F : FunD K "outcomes" "Run.outcomes" (defArgs s_Run_outcomes) (defBody s_Run_outcomes) (defScope s_Run_outcomes) [] [] f fd) (T : Txt K mg) (c_U_outcome : C8.Met P w K mg base 4 (cU K) "outcome" (sp_Run_outcome K) []) :
    FnOk P w K mg base CX0 5 f fd ["self"] (sp_Run_outcomes K) := by
  refine F.ok sc_Run_outcomes (fun vs H Q E h => ?_) (fun cdv A outer s H vs Q E hr h => ?_)
  · obtain ⟨_, _, _, _, rfl, _⟩ := h
    rfl
  · have hu := hu_of hr
    obtain ⟨u, s, p, S, rfl, hF, h6, k⟩ := h
    have hF0 := hF
    obtain ⟨bg, cg, sv, cl, wt, chg, st, Hb, hX, g⟩ := hF
    have hrv := hX.rv
    refine ⟨_, PSs.nox ((pss_one (ps_ret (pe_lc (own := [("client", 1)]) (g := (gName 1)) (tt := tYes) rfl sc_Run_outcomes.nd (pi_range1 (by rfl) T.f_range (pa_cons (pe_callB call_len_seq (by rfl) T.f_len (by decide +kernel) (pa_cons (pe_f (pv 0)) pa_nil)) pa_nil)) (blkOk_by (own := [("client", 1)]) (N := ["self", "client"]) (sc := defScope s_Run_outcomes) (by decide +kernel)) (fun _ _ _ _ _ => (pg_name (i := 1) sc_Run_outcomes.nd rfl (by first | exact Or.inl rfl | exact Or.inr rfl))) (fun _ _ _ _ _ => pts_nil) (fun _ _ _ _ _ => (pe_m c_U_outcome hr (by decide) (pv 0) (pa_cons (pv 1) pa_nil))))))), ?_⟩
    have hbl : (S.ss.map V.int).length = S.ss.length := List.length_map ..
    refine ⟨_, rfl, _, hrv.fbeg T, bg, _, rfl, .inl (SqL.of hrv.hbg), ((S.ss.map V.int).length : Int), rfl, by omega, by omega, fun D hD => lc_pure (walk_range (lo := 0) (n := ((S.ss.map V.int).length : Int).toNat)) (fun _ => true) (fun _ y H => ∃ t zs, y = .ref t ∧ H t = some (.tup zs) ∧ OutV S zs) (fun _ y H H' e ⟨t, zs, h1, h2, h3⟩ => ⟨t, zs, h1, e _ _ (fun xs z => by cases z) h2, h3⟩) hD (by omega) (fun _ _ => trivial) ?_ ?_⟩
    · rintro i x H1 H2 Ky Kn hi s1 ⟨rfl, rfl⟩ hy _
      have hi2 : i < S.ss.length := by omega
      have e2 : (0 : Int) + (i : Nat) = (i : Nat) := Int.zero_add _
      have hF1 := hF0.mono s1
      have hrv1 := hrv.mono s1
      refine ⟨rfl, yes_te ?_⟩
      refine ⟨_, rfl, hrv1.md mU_outcome, _, rfl, u, s, p, S, i, (by show [V.ref u, V.int ((0 : Int) + (i : Nat))] = _; rw [e2]), hF1, hi2, fun H3 t ys s3 h4 h5 => hy rfl _ _ ⟨t, ys, rfl, h4, h5⟩ s3⟩
    · intro H1 acc s1 hD1 hm
      refine k H1 D acc s1 hD1 ?_ (Made.all (P := fun y H => ∃ t zs, y = .ref t ∧ H t = some (.tup zs) ∧ OutV S zs) hm)
      rw [hm.len]
      have := List.length_filter_le (fun _ => true) (List.range ((S.ss.map V.int).length : Int).toNat)
      rw [List.length_range] at this
      omega
def sp_Run_order (K : PySem.W.Frag) : Sp := fun vs H Q _ => ∃ (u s p : Addr) (S : Sc), vs = [.ref u] ∧ FinAt K H u s p S ∧ ∀ H' l ys, Same H H' → H' l = some (.lst ys) → ys.length ≤ 6 → (∀ y ∈ ys, ∃ t i j, y = .ref t ∧ H' t = some (.tup [.int i, .int j])) → Q (.ref l) H'
theorem sc_Run_order : FnScope ["self", "client", "attempt", "slot"] ["self"] (defScope s_Run_order) := ⟨rfl, rfl, rfl, by decide +kernel, rfl, by decide +kernel, by decide +kernel⟩
theorem ok_Run_order {f : Addr} {fd : FuncData} (F : FunD K "order" "Run.order" (defArgs s_Run_order) (defBody s_Run_order) (defScope s_Run_order) [] [] f fd) (T : Txt K mg)  :
    FnOk P w K mg base CX0 1 f fd ["self"] (sp_Run_order K) := by
  refine F.ok sc_Run_order (fun vs H Q E h => ?_) (fun cdv A outer s H vs Q E hr h => ?_)
  · obtain ⟨_, _, _, _, rfl, _⟩ := h
    rfl
  · have hu := hu_of hr
    obtain ⟨u, s, p, S, rfl, ⟨bg, cg, sv, cl, wt, chg, st, Hb, hX, g⟩, k⟩ := h
    have hrv := hX.rv
    refine ⟨_, PSs.nox ((pss_one (ps_ret (pe_callB cr_sortedP (by rfl) T.f_sorted (by decide +kernel) (pa_cons (pe_lock (pe_lc (own := [("client", 1), ("attempt", 2), ("slot", 3)]) (g := (gTup K 2 (gCons (gName 1) (gCons (gTup K 2 (gCons (gName 2) (gCons (gName 3) gNil))) gNil)))) (tt := tYes) rfl sc_Run_order.nd (pi_items (pe_f (pv 0))) (blkOk_by (own := [("client", 1), ("attempt", 2), ("slot", 3)]) (N := ["self", "client", "attempt", "slot"]) (sc := defScope s_Run_order) (by decide +kernel)) (fun _ _ _ _ _ => (pg_tup rfl (pgs_cons (pg_name (i := 1) sc_Run_order.nd rfl (by first | exact Or.inl rfl | exact Or.inr rfl)) (pgs_cons (pg_tup rfl (pgs_cons (pg_name (i := 2) sc_Run_order.nd rfl (by first | exact Or.inl rfl | exact Or.inr rfl)) (pgs_cons (pg_name (i := 3) sc_Run_order.nd rfl (by first | exact Or.inl rfl | exact Or.inr rfl)) pgs_nil))) pgs_nil)))) (fun _ _ _ _ _ => pts_nil) (fun _ _ _ _ _ => (pe_tup (pa_cons (pv 3) (pa_cons (pv 1) pa_nil)))))) pa_nil))))), ?_⟩
    obtain ⟨svk, hsv, hsv2⟩ := hX.hsv
    have hsl : svk.length = st.serv.length := pq_len hsv2
    have glen := g.len2
    refine ⟨sv, _, hsv, trivial, fun od => ?_⟩
    refine ⟨_, rfl, _, (hX.fsv T).updD hsv, sv, od, _, rfl, upd_same, fun D hD => lc_pure walk_items (fun _ => true) (fun _ y H => ∃ t i j, y = .ref t ∧ H t = some (.tup [.int i, .int j])) (fun _ y H H' e ⟨t, i, j, h1, h2⟩ => ⟨t, i, j, h1, e _ _ (fun xs z => by cases z) h2⟩) hD (by omega) (fun H2 e => e _ _ upd_same) ?_ ?_⟩
    · rintro i x H1 H2 Ky Kn hi s1 ⟨Ta, x1, y1, rfl, hT, rfl, hx1, hy1⟩ hy _
      have hq : svk[i]? = some svk[i] := List.getElem?_eq_getElem hi
      generalize svk[i] = kv at hq
      obtain ⟨z, hz, t, hkv, ht⟩ := pq_get hsv2 hq
      have ex1 : x1 = .int (z.1 : Nat) := by
        have : (svk[i]?.map fun kv => kV kv.1) = some x1 := hx1
        rw [hq, hkv] at this
        exact (Option.some.inj this).symm
      have ey1 : y1 = .ref t := by
        have : (svk[i]?.map Prod.snd) = some y1 := hy1
        rw [hq, hkv] at this
        exact (Option.some.inj this).symm
      subst ex1 ey1
      have s2 : Same H1 (upd H1 Ta (.tup [V.int (z.1 : Nat), V.ref t])) := same_new hT
      have ht2 : (upd H1 Ta (.tup [V.int (z.1 : Nat), V.ref t])) t = some (.tup [.int (z.2.1 : Nat), .int z.2.2]) := s2 _ _ (s1 _ _ (by rw [upd_ne (ne_of ht hsv (by intro z; cases z))]; exact ht))
      refine ⟨Ta, _, rfl, SqT.of upd_same, rfl, _, _, rfl, _, _, rfl, t, _, rfl, SqT.of ht2, rfl, _, _, rfl, _, _, rfl, rfl, rfl, rfl, yes_te ?_⟩
      exact ⟨_, rfl, _, rfl, by show 2 ≤ sizeLine; decide, fun tp htp => hy rfl _ _ ⟨tp, _, _, rfl, upd_same⟩ (s2.trans (same_new htp))⟩
    · intro H1 acc s1 hD1 hm
      obtain ⟨sth, hfz⟩ := Same.thaw hsv s1
      have hnD : D ≠ sv := fun e => by rw [e, hfz] at hD1; cases hD1
      refine ⟨hfz, ?_⟩
      have hall := Made.all (P := fun y H => ∃ t i j, y = .ref t ∧ H t = some (.tup [.int i, .int j])) hm
      have hlen : acc.length ≤ 6 := by
        rw [hm.len]
        have := List.length_filter_le (fun _ => true) (List.range svk.length)
        rw [List.length_range] at this
        omega
      have hall2 : ∀ y ∈ acc, ∃ t i j, y = .ref t ∧ (upd H1 sv (.dK svk)) t = some (.tup [.int i, .int j]) := fun y hy => by
        obtain ⟨t, i, j, h1, h2⟩ := hall y hy
        refine ⟨t, i, j, h1, ?_⟩
        rw [upd_ne (ne_of h2 hfz (by intro z; cases z))]
        exact h2
      refine ⟨D, acc, rfl, SqL.of (by rw [upd_ne hnD]; exact hD1), hall2, fun ys l hp hl => k _ l ys (sth.trans (same_new hl)) upd_same (by rw [hp.length_eq]; exact hlen) fun y hy => ?_⟩
      obtain ⟨t, i, j, h1, h2⟩ := hall2 y (hp.mem_iff.mp hy)
      exact ⟨t, i, j, h1, (same_new hl) _ _ h2⟩
end
end My
set_option Elab.async false
set_option linter.all false
set_option maxRecDepth 100000
set_option maxHeartbeats 4000000
namespace My
open PySem PySem.Spec PyProof.Rows L2
section
variable {P : Program} {w : World} {K : PySem.W.Frag} {mg : Str → Option Value} {base : Heap}
def Sc.act (S : Sc) (t : Int) (c : Nat) : Bool := decide (S.at c ≤ t) && (S.R.first (t - S.at c)).isSome
def sp_Run_is_active (K : PySem.W.Frag) : Sp := fun vs H Q _ => ∃ (u s p : Addr) (S : Sc) (c : Nat) (t : Int), vs = [.ref u, .int c, .int t] ∧ FinAt K H u s p S ∧ c < S.ss.length ∧ t < S.ob ∧ (∀ b, S.R.t = .tim b → t - S.at c ≤ 2 ^ 40) ∧ ∀ H', Same H H' → Q (.bl (S.act t c)) H'
theorem sc_Run_is_active : FnScope ["self", "client", "slot"] ["self", "client", "slot"] (defScope s_Run_is_active) := ⟨rfl, rfl, rfl, by decide +kernel, rfl, by decide +kernel, by decide +kernel⟩
theorem ok_Run_is_active {f : Addr} {fd : FuncData} (F : FunD K "is_active" "Run.is_active" (defArgs s_Run_is_active) (defBody s_Run_is_active) (defScope s_Run_is_active) [] [] f fd) (T : Txt K mg) (c_R_first_from : C8.Met P w K mg base 3 (cR K) "first_from" (sp_Rule_first_from K) []) :
    FnOk P w K mg base CX0 4 f fd ["self", "client", "slot"] (sp_Run_is_active K) := by
  refine F.ok sc_Run_is_active (fun vs H Q E h => ?_) (fun cdv A outer s H vs Q E hr h => ?_)
  · obtain ⟨_, _, _, _, _, _, rfl, _⟩ := h
    rfl
  · have hu := hu_of hr
    obtain ⟨u, s, p, S, c, t, rfl, ⟨bg, cg, sv, cl, wt, chg, st, Hb, hX, g⟩, hc, hob, hlim, k⟩ := h
    have hrv := hX.rv
    refine ⟨_, PSs.nox ((pss_cons (ps_if (PW.pt (pw_or (pt_cmpR op_gt (pe_ix ix_list (pe_f (pv 0)) (pv 1) (fun _ _ => rfl)) (pv 2) (nomark _)) (pw_or1 (PW.pt (pw_and (pt_cmp (pc_din hu (pv 1) (pe_f (pv 0)))) (pw_and1 (pt_cmpR op_lt (pe_ix ix_tup (pe_dget hu (pe_f (pv 0)) (pv 1) (fun _ _ => rfl)) pe_int (fun _ _ => rfl)) (pv 2) (nomark _)))))))) (pss_one (ps_ret pe_bl)) pss_nil)
      (pss_one (ps_ret (pe_cmpR op_notN (pe_m c_R_first_from hr (by decide) (pe_f (pv 0)) (pa_cons (pe_op op_sub (pv 2) (pe_ix ix_list (pe_f (pv 0)) (pv 1) (fun _ _ => rfl))) pa_nil)) pe_non (nomark _)))))), ?_⟩
    have hbeg : ∀ (σ : L2.St), σ[0]? = some (some (.ref u)) → True := fun _ _ => trivial
    obtain ⟨svk, hsv, hsv2⟩ := hX.hsv
    refine ⟨_, rfl, _, hrv.fbeg T, _, rfl, bg, _, _, _, rfl, rfl, SqL.of hrv.hbg, atI_nat (ss_at hc), _, rfl, _, _, rfl, rfl, _, rfl, ?_⟩
    unfold Sc.act at k
    refine ite2 (fun hgt => ?_) (fun hgt => ?_)
    · have h1 : t < S.at c := of_decide_eq_true hgt
      rw [decide_eq_false (by omega)] at k
      refine iteT ?_
      exact k H (Same.refl _)
    have h1 : S.at c ≤ t := by
      have : ¬ t < S.at c := fun z => hgt (decide_eq_true z)
      omega
    rw [decide_eq_true h1] at k
    have fin : tRet (tOp (fun x y H Q => y = .non ∧ Q (.bl (!decide (x = .non))) H) (tM (cR K) "first_from" (sp_Rule_first_from K) (tF K (tVar 0) "pattern") (tCons (tOp (rI0 fun i j => .int (i - j)) (tVar 2) (tOp (rIxL K) (tF K (tVar 0) "begins") (tVar 1))) tNil)) (tC .non))
        { nx := fun _ H' => Q .non H', rt := Q } [some (.ref u), some (.int (c : Int)), some (.int t)] H := by
      refine ⟨_, rfl, _, hrv.fpat T, hrv.scene.rule.md mR_first_from, _, rfl, _, rfl, _, hrv.fbeg T, _, rfl, bg, _, _, _, rfl, rfl, SqL.of hrv.hbg, atI_nat (ss_at hc), _, _, rfl, rfl, p, S.R, _, rfl, hrv.scene.rule, hlim, fun H2 s2 => ⟨rfl, ?_⟩⟩
      rw [optV_non]
      exact k H2 s2
    refine ⟨_, rfl, _, rfl, _, hX.fsv T, sv, _, rfl, DGet.k (k := .inl (c : Int)) hsv, _, rfl, ?_⟩
    rcases sv_find (c := c) hsv2 with h0 | ⟨t2, z, h2, h3, h4⟩
    · rw [h0]
      refine iteF ?_
      refine iteF ?_
      exact fin
    · rw [h2]
      refine iteT ?_
      have hz := (g.sv z h3).2.1
      refine ⟨_, rfl, _, hX.fsv T, _, rfl, sv, _, rfl, h2 ▸ DGet.k (k := .inl (c : Int)) hsv, t2, _, _, _, rfl, rfl, SqT.of h4, rfl, _, rfl, _, _, rfl, rfl, false, congrArg V.bl (decide_eq_false (by omega)), ?_⟩
      refine iteF ?_
      exact fin
def sp_Run_active (K : PySem.W.Frag) : Sp := fun vs H Q _ => ∃ (u s p : Addr) (S : Sc) (t : Int), vs = [.ref u, .int t] ∧ FinAt K H u s p S ∧ S.ss.length ≤ 6 ∧ t < S.ob ∧ (∀ b, S.R.t = .tim b → ∀ c, c < S.ss.length → t - S.at c ≤ 2 ^ 40) ∧
  ∀ l H', Same H H' → H' l = some (.lst (((List.range S.ss.length).filter (S.act t)).map fun c : Nat => V.int (c : Int))) → Q (.ref l) H'
theorem sc_Run_active : FnScope ["self", "slot", "client"] ["self", "slot"] (defScope s_Run_active) := ⟨rfl, rfl, rfl, by decide +kernel, rfl, by decide +kernel, by decide +kernel⟩
theorem ok_Run_active {f : Addr} {fd : FuncData} (F : FunD K "active" "Run.active" (defArgs s_Run_active) (defBody s_Run_active) (defScope s_Run_active) [] [] f fd) (T : Txt K mg) (c_U_is_active : C8.Met P w K mg base 4 (cU K) "is_active" (sp_Run_is_active K) []) (c_is_integer : C8.Cal P w K mg base 1 "is_integer" (sp_is_integer K) []) :
    FnOk P w K mg base CX0 5 f fd ["self", "slot"] (sp_Run_active K) := by
  refine F.ok sc_Run_active (fun vs H Q E h => ?_) (fun cdv A outer s H vs Q E hr h => ?_)
  · obtain ⟨_, _, _, _, _, rfl, _⟩ := h
    rfl
  · have hu := hu_of hr
    obtain ⟨u, s, p, S, t, rfl, hF0, h6, hob, hlim, k⟩ := h
    obtain ⟨bg, cg, sv, cl, wt, chg, st, Hb, hX, g⟩ := id hF0
    have hrv := hX.rv
    refine ⟨_, PSs.nox ((pss_cons (ps_if (pt_not (pt_val (C8.pe_c c_is_integer hr (by decide) (by rfl) (pa_cons (pv 1) pa_nil)))) (pss_one ps_never) pss_nil)
      (pss_one (ps_ret (pe_lc (own := [("client", 2)]) (g := (gName 2)) rfl sc_Run_active.nd (pi_range1 (by rfl) T.f_range (pa_cons (pe_callB call_len_seq (by rfl) T.f_len (by decide +kernel) (pa_cons (pe_f (pv 0)) pa_nil)) pa_nil)) (blkOk_by (own := [("client", 2)]) (N := ["self", "slot", "client"]) (sc := defScope s_Run_active) (by decide +kernel)) (fun _ _ _ _ _ => (pg_name (i := 2) sc_Run_active.nd rfl (by first | exact Or.inl rfl | exact Or.inr rfl))) (fun _ _ _ _ _ => (pts_one (pt_val (pe_m c_U_is_active hr (by decide) (pv 0) (pa_cons (pv 2) (pa_cons (pv 1) pa_nil)))))) (fun _ _ _ _ _ => (pv 2))))))), ?_⟩
    have hbl : (S.ss.map V.int).length = S.ss.length := List.length_map ..
    refine ⟨_, rfl, t, rfl, true, rfl, iteF ?_⟩
    refine ⟨_, rfl, _, hrv.fbeg T, bg, _, rfl, .inl (SqL.of hrv.hbg), ((S.ss.map V.int).length : Int), rfl, by omega, by omega, fun D hD => lc_pure (walk_range (lo := 0) (n := ((S.ss.map V.int).length : Int).toNat)) (S.act t) (fun i y H => y = .int (i : Nat)) (fun _ _ _ _ _ h => h) hD (by omega) (fun _ _ => trivial) ?_ ?_⟩
    · rintro i x H1 H2 Ky Kn hi s1 ⟨rfl, rfl⟩ hy hn
      have hi2 : i < S.ss.length := by omega
      have e2 : (0 : Int) + (i : Nat) = (i : Nat) := Int.zero_add _
      have hF1 := hF0.mono s1
      have hrv1 := hrv.mono s1
      refine ⟨rfl, ?_⟩
      refine ⟨_, rfl, hrv1.md mU_is_active, _, rfl, _, rfl, u, s, p, S, i, t, (by show [V.ref u, V.int ((0 : Int) + (i : Nat)), V.int t] = _; rw [e2]), hF1, hi2, hob, fun b e => hlim b e i hi2, fun H3 s3 => ⟨_, rfl, ?_⟩⟩
      refine ite2 (fun hc => ?_) (fun hc => ?_)
      · exact ⟨_, rfl, hy hc _ _ (by show V.int ((0 : Int) + (i : Nat)) = _; rw [e2]) s3⟩
      · exact hn (by simpa using hc) _ s3
    · intro H1 acc s1 hD1 hm
      have hacc := Made.fn (H := H1) (f := fun i => V.int (i : Nat)) hm
      have e3 : ((S.ss.map V.int).length : Int).toNat = S.ss.length := by omega
      rw [e3] at hacc
      refine k D H1 s1 ?_
      rw [hD1, hacc]
def Sc.att (S : Sc) (t : Int) : List Nat := (List.range S.ss.length).filter fun c => S.R.hit (t - S.at c)
theorem Sc.att_act {S : Sc} (ok : S.R.Ok) (t : Int) : ((List.range S.ss.length).filter (S.act t)).filter (fun c => S.R.hit (t - S.at c)) = S.att t := by
  unfold Sc.att
  rw [List.filter_filter]
  refine List.filter_congr fun c _ => ?_
  cases h : S.R.hit (t - S.at c) with
  | false => rfl
  | true =>
    obtain ⟨a, h1, h2⟩ := (Ru.hit_iff ok).mp h
    have h3 := S.R.off_nn ok a
    unfold Sc.act
    rw [decide_eq_true (show S.at c ≤ t by omega)]
    cases e : S.R.first (t - S.at c) with
    | some x => rfl
    | none =>
      have := (Ru.first_none ok).mp e a h1
      omega
def sp_Run_attempting (K : PySem.W.Frag) : Sp := fun vs H Q _ => ∃ (u s p : Addr) (S : Sc) (t : Int), vs = [.ref u, .int t] ∧ FinAt K H u s p S ∧ S.ss.length ≤ 6 ∧ t < S.ob ∧ (∀ b, S.R.t = .tim b → ∀ c, c < S.ss.length → t - S.at c ≤ 2 ^ 40) ∧
  ∀ l H', Same H H' → H' l = some (.lst ((S.att t).map fun c : Nat => V.int (c : Int))) → Q (.ref l) H'
theorem sc_Run_attempting : FnScope ["self", "slot", "client"] ["self", "slot"] (defScope s_Run_attempting) := ⟨rfl, rfl, rfl, by decide +kernel, rfl, by decide +kernel, by decide +kernel⟩
theorem ok_Run_attempting {f : Addr} {fd : FuncData} (F : FunD K "attempting" "Run.attempting" (defArgs s_Run_attempting) (defBody s_Run_attempting) (defScope s_Run_attempting) [] [] f fd) (T : Txt K mg) (c_S_attempt_in : C8.Met P w K mg base 5 (cS K) "attempt_in" (sp_Scene_attempt_in K) []) (c_U_active : C8.Met P w K mg base 5 (cU K) "active" (sp_Run_active K) []) :
    FnOk P w K mg base CX0 6 f fd ["self", "slot"] (sp_Run_attempting K) := by
  refine F.ok sc_Run_attempting (fun vs H Q E h => ?_) (fun cdv A outer s H vs Q E hr h => ?_)
  · obtain ⟨_, _, _, _, _, rfl, _⟩ := h
    rfl
  · have hu := hu_of hr
    obtain ⟨u, s, p, S, t, rfl, hF0, h6, hob, hlim, k⟩ := h
    obtain ⟨bg, cg, sv, cl, wt, chg, st, Hb, hX, g⟩ := id hF0
    have hrv := hX.rv
    refine ⟨_, PSs.nox ((pss_one (ps_ret (pe_lc (own := [("client", 2)]) (g := (gName 2)) rfl sc_Run_attempting.nd (pi_list (pe_m c_U_active hr (by decide) (pv 0) (pa_cons (pv 1) pa_nil))) (blkOk_by (own := [("client", 2)]) (N := ["self", "slot", "client"]) (sc := defScope s_Run_attempting) (by decide +kernel)) (fun _ _ _ _ _ => (pg_name (i := 2) sc_Run_attempting.nd rfl (by first | exact Or.inl rfl | exact Or.inr rfl))) (fun _ _ _ _ _ => (pts_one (pt_cmpR op_notN (pe_m c_S_attempt_in hr (by decide) (pe_fK (K := K) rfl (pv 0)) (pa_cons (pv 2) (pa_cons (pv 1) pa_nil))) pe_non (nomark _)))) (fun _ _ _ _ _ => (pv 2)))))), ?_⟩
    have A_def : ∃ A : List Nat, A = (List.range S.ss.length).filter (S.act t) := ⟨_, rfl⟩
    obtain ⟨A, hA⟩ := A_def
    have hAl : A.length ≤ 6 := by
      rw [hA]
      have := List.length_filter_le (S.act t) (List.range S.ss.length)
      rw [List.length_range] at this
      omega
    have hAc : ∀ c ∈ A, c < S.ss.length := fun c hc => by
      rw [hA] at hc
      exact List.mem_range.mp (List.mem_filter.mp hc).1
    have hAm : (A.map fun c : Nat => V.int (c : Int)).length = A.length := List.length_map ..
    refine ⟨_, rfl, hrv.md mU_active, _, rfl, u, s, p, S, t, rfl, hF0, h6, hob, hlim, fun l H1 s1 hl => ?_⟩
    rw [← hA] at hl
    refine ⟨l, rfl, ⟨_, SqL.of hl⟩, fun D hD => lc_pure (walk_list (K := K) (a := l) (xs := A.map fun c : Nat => V.int (c : Int))) (fun i => S.R.hit (t - S.at (A.getD i 0))) (fun i y H => y = .int (A.getD i 0 : Nat)) (fun _ _ _ _ _ h => h) hD (by omega) (fun H2 e => e.seq (SqL.of hl)) ?_ ?_⟩
    · rintro i x H2 H3 Ky Kn hi s2 ⟨rfl, hx⟩ hy hn
      rw [List.getElem?_map] at hx
      obtain ⟨c, hc, rfl⟩ := Option.map_eq_some_iff.mp hx
      rw [getD_of hc] at hy hn
      have hcs := hAc c (List.mem_of_getElem? hc)
      have hrv2 := hrv.mono (s1.trans s2)
      refine ⟨rfl, ?_⟩
      refine ⟨_, rfl, _, hrv2.fscene T, hrv2.scene.md mS_attempt_in, _, rfl, _, rfl, s, p, S, c, t, rfl, hrv2.scene, hcs, fun b e => hlim b e c hcs, fun H4 s4 => ⟨rfl, _, rfl, ?_⟩⟩
      rw [optV_non]
      refine ite2 (fun hc => ?_) (fun hc => ?_)
      · exact ⟨_, rfl, hy hc _ _ rfl s4⟩
      · exact hn (by unfold Ru.hit; simpa using hc) _ s4
    · intro H2 acc s2 hD2 hm
      have hacc := Made.fn (H := H2) (f := fun i => V.int (A.getD i 0 : Nat)) hm
      rw [hAm, keep_map (0 : Nat) (fun c => S.R.hit (t - S.at c)) (fun c : Nat => V.int (c : Int)) A, hA, Sc.att_act hrv.scene.rule.ok] at hacc
      refine k D H2 (s1.trans s2) ?_
      rw [hD2, hacc]
def sp_Run_busy_with (K : PySem.W.Frag) : Sp := fun vs H Q _ => ∃ (u s p : Addr) (S : Sc) (t : Int), vs = [.ref u, .int t] ∧ FinAt K H u s p S ∧ ∀ H' v, Same H H' → Q v H'
theorem sc_Run_busy_with : FnScope ["self", "slot", "length", "begin", "client"] ["self", "slot"] (defScope s_Run_busy_with) := ⟨rfl, rfl, rfl, by decide +kernel, rfl, by decide +kernel, by decide +kernel⟩
theorem ok_Run_busy_with {f : Addr} {fd : FuncData} (F : FunD K "busy_with" "Run.busy_with" (defArgs s_Run_busy_with) (defBody s_Run_busy_with) (defScope s_Run_busy_with) [] [] f fd) (T : Txt K mg) (c_S_length : C8.Met P w K mg base 1 (cS K) "length" (sp_Scene_length K) []) (c_U_order : C8.Met P w K mg base 1 (cU K) "order" (sp_Run_order K) []) :
    FnOk P w K mg base CX0 2 f fd ["self", "slot"] (sp_Run_busy_with K) := by
  refine F.ok sc_Run_busy_with (fun vs H Q E h => ?_) (fun cdv A outer s H vs Q E hr h => ?_)
  · obtain ⟨_, _, _, _, _, rfl, _⟩ := h
    rfl
  · have hu := hu_of hr
    obtain ⟨u, s, p, S, t, rfl, hF0, k⟩ := h
    obtain ⟨bg, cg, sv, cl, wt, chg, st, Hb, hX, g⟩ := id hF0
    have hrv := hX.rv
    refine ⟨_, PSs.nox ((pss_cons (ps_set (i := 2) sc_Run_busy_with.nd rfl (by first | exact Or.inl rfl | exact Or.inr rfl) (pe_m0 c_S_length hr (by decide) (pe_f (pv 0))))
      (pss_one (ps_ret (pe_ix ix_list (pe_op op_cat (pe_lc (own := [("begin", 3), ("client", 4)]) (g := (gTup K 2 (gCons (gName 3) (gCons (gName 4) gNil)))) rfl sc_Run_busy_with.nd (pi_list (pe_m0 c_U_order hr (by decide) (pv 0))) (blkOk_by (own := [("begin", 3), ("client", 4)]) (N := ["self", "slot", "length", "begin", "client"]) (sc := defScope s_Run_busy_with) (by decide +kernel)) (fun _ _ _ _ _ => (pg_tup rfl (pgs_cons (pg_name (i := 3) sc_Run_busy_with.nd rfl (by first | exact Or.inl rfl | exact Or.inr rfl)) (pgs_cons (pg_name (i := 4) sc_Run_busy_with.nd rfl (by first | exact Or.inl rfl | exact Or.inr rfl)) pgs_nil)))) (fun _ _ _ _ _ => (pts_one (pt_chain op_lt op_lt (pv 3) (pv 1) (pe_op op_add (pv 3) (pv 2))))) (fun _ _ _ _ _ => (pv 4))) (pe_lst (pa_cons pe_non pa_nil))) pe_int (fun _ _ => rfl)))))), ?_⟩
    refine ⟨_, rfl, _, hrv.fscene T, hrv.scene.md mS_length, s, p, S, rfl, hrv.scene, ?_⟩
    refine ⟨_, rfl, hrv.md mU_order, u, s, p, S, rfl, hF0, fun H1 l ys s1 hl hlen hys => ?_⟩
    have ij_def : ∀ i, ∃ q : Int × Int × Addr, i < ys.length → ys[i]? = some (.ref q.2.2) ∧ H1 q.2.2 = some (.tup [.int q.1, .int q.2.1]) := fun i => by
      by_cases h : i < ys.length
      · obtain ⟨t, a, b, h1, h2⟩ := hys ys[i] (List.getElem_mem h)
        exact ⟨(a, b, t), fun _ => ⟨by rw [List.getElem?_eq_getElem h, h1], h2⟩⟩
      · exact ⟨(0, 0, 0), fun z => absurd z h⟩
    obtain ⟨fq, hfq⟩ := Classical.axiomOfChoice ij_def
    refine ⟨l, rfl, ⟨_, SqL.of hl⟩, fun D hD => lc_pure (walk_list (K := K) (a := l) (xs := ys)) (fun i => decide ((fq i).1 < t ∧ t < (fq i).1 + S.len)) (fun i y H => True) (fun _ _ _ _ _ h => h) hD (by omega) (fun H2 e => e.seq (SqL.of hl)) ?_ ?_⟩
    · rintro i x H2 H3 Ky Kn hi s2 ⟨rfl, hx⟩ hy hn
      obtain ⟨h1, h2⟩ := hfq i hi
      rw [h1] at hx
      cases hx
      generalize fq i = q at *
      refine ⟨q.2.2, _, rfl, SqT.of (s2 _ _ h2), rfl, _, _, rfl, _, _, rfl, rfl, rfl, ?_⟩
      refine ⟨_, rfl, _, rfl, _, _, rfl, rfl, _, rfl, ?_⟩
      refine ite2 (fun hc => ?_) (fun hc => ?_)
      · refine ⟨_, rfl, _, rfl, _, _, rfl, rfl, _, _, rfl, rfl, _, rfl, ?_⟩
        refine ite2 (fun hc2 => ?_) (fun hc2 => ?_)
        · exact ⟨_, rfl, hy (decide_eq_true ⟨of_decide_eq_true hc, of_decide_eq_true hc2⟩) _ _ trivial (Same.refl _)⟩
        · exact hn (decide_eq_false fun z => hc2 (decide_eq_true z.2)) _ (Same.refl _)
      · exact ⟨false, rfl, hn (decide_eq_false fun z => hc (decide_eq_true z.1)) _ (Same.refl _)⟩
    · intro H2 acc s2 hD2 hm
      have hacc : acc.length ≤ 6 := by
        rw [hm.len]
        have := List.length_filter_le (fun i => decide ((fq i).1 < t ∧ t < (fq i).1 + S.len)) (List.range ys.length)
        rw [List.length_range] at this
        omega
      refine ⟨by show 1 ≤ sizeLine; decide, fun e he => ?_⟩
      have s3 : Same H2 (upd H2 e (.lst [.non])) := same_new he
      refine ⟨D, e, _, _, rfl, rfl, s3 _ _ hD2, upd_same, szL (by show acc.length + 1 ≤ _; omega), fun r hr => ?_⟩
      have hat : ∃ v, (acc ++ [V.non])[0]? = some v := ⟨_, List.getElem?_eq_getElem (by simp)⟩
      obtain ⟨v, hv⟩ := hat
      exact ⟨r, _, _, v, rfl, rfl, SqL.of upd_same, atI_n (j := 0) rfl hv, k _ v (s1.trans (s2.trans (s3.trans (same_new hr))))⟩
def sp_Run_event (K : PySem.W.Frag) : Sp := fun vs H Q _ => ∃ (u s p : Addr) (S : Sc) (t : Int), vs = [.ref u, .int t] ∧ FinAt K H u s p S ∧ S.ss.length ≤ 6 ∧ S.out t = true ∧ (∀ b, S.R.t = .tim b → ∀ c, c < S.ss.length → t - S.at c ≤ 2 ^ 40) ∧
  ∀ e l H', Same H H' → H' e = some (.tup [.str "outage", .int 0, .ref l]) → H' l = some (.lst ((S.att t).map fun c : Nat => V.int (c : Int))) → Q (.ref e) H'
theorem sc_Run_event : FnScope ["self", "slot", "clients", "at", "client"] ["self", "slot"] (defScope s_Run_event) := ⟨rfl, rfl, rfl, by decide +kernel, rfl, by decide +kernel, by decide +kernel⟩
theorem ok_Run_event {f : Addr} {fd : FuncData} (F : FunD K "event" "Run.event" (defArgs s_Run_event) (defBody s_Run_event) (defScope s_Run_event) [] [] f fd) (T : Txt K mg) (c_S_outage_at : C8.Met P w K mg base 2 (cS K) "outage_at" (sp_Scene_outage_at K) []) (c_U_attempting : C8.Met P w K mg base 6 (cU K) "attempting" (sp_Run_attempting K) []) (c_U_busy_with : C8.Met P w K mg base 2 (cU K) "busy_with" (sp_Run_busy_with K) []) :
    FnOk P w K mg base CX0 7 f fd ["self", "slot"] (sp_Run_event K) := by
  refine F.ok sc_Run_event (fun vs H Q E h => ?_) (fun cdv A outer s H vs Q E hr h => ?_)
  · obtain ⟨_, _, _, _, _, rfl, _⟩ := h
    rfl
  · have hu := hu_of hr
    obtain ⟨u, s, p, S, t, rfl, hF0, h6, hout, hlim, k⟩ := h
    obtain ⟨bg, cg, sv, cl, wt, chg, st, Hb, hX, g⟩ := id hF0
    have hrv := hX.rv
    have hw : S.oa ≤ t ∧ t < S.ob := by
      unfold Sc.out at hout
      exact of_decide_eq_true hout
    refine ⟨_, PSs.nox ((pss_cons (ps_set (i := 2) sc_Run_event.nd rfl (by first | exact Or.inl rfl | exact Or.inr rfl) (pe_m c_U_attempting hr (by decide) (pv 0) (pa_cons (pv 1) pa_nil)))
      (pss_cons (ps_par (i := 3) (j := 4) (by rfl) sc_Run_event.nd rfl rfl (by decide) rfl rfl (pa_cons (pe_m c_S_outage_at hr (by decide) (pe_f (pv 0)) (pa_cons (pv 1) pa_nil)) (pa_cons (pe_m c_U_busy_with hr (by decide) (pv 0) (pa_cons (pv 1) pa_nil)) pa_nil)) (by rfl))
      (pss_cons (ps_if (pt_cmpR op_notN (pv 3) pe_non (nomark _)) (pss_one (ps_ret (pe_tup (pa_cons pe_str (pa_cons (pv 3) (pa_cons (pv 2) pa_nil)))))) pss_nil)
      (pss_cons (ps_if (pt_cmpR op_notN (pv 4) pe_non (nomark _)) (pss_one (ps_ret (pe_tup (pa_cons pe_str (pa_cons (pv 4) (pa_cons (pv 2) pa_nil)))))) pss_nil)
      (pss_cons (ps_if (pt_cmpR op_gt (pe_callB call_len_seq (by rfl) T.f_len (by decide +kernel) (pa_cons (pv 2) pa_nil)) pe_int (nomark _)) (pss_one (ps_ret (pe_tup (pa_cons pe_str (pa_cons (pv 2) pa_nil))))) pss_nil)
      (pss_one (ps_ret (pe_ifExp (pt_cmpR op_ne (pv 2) (pe_lst pa_nil) (nomark _)) (pe_tup (pa_cons pe_str (pa_cons (pe_ix ix_list (pv 2) pe_int (fun _ _ => rfl)) pa_nil))) (pe_tup (pa_cons pe_str pa_nil))))))))))), ?_⟩
    refine ⟨_, rfl, hrv.md mU_attempting, _, rfl, u, s, p, S, t, rfl, hF0, h6, hw.2, hlim, fun l H1 s1 hl => ?_⟩
    have hrv1 := hrv.mono s1
    refine ⟨_, rfl, _, hrv1.fscene T, hrv1.scene.md mS_outage_at, _, rfl, s, p, S, t, rfl, hrv1.scene, fun H2 s2 => ?_⟩
    have hrv2 := hrv1.mono s2
    refine ⟨_, rfl, hrv2.md mU_busy_with, _, rfl, u, s, p, S, t, rfl, hF0.mono (s1.trans s2), fun H3 v s3 => ⟨_, _, rfl, ?_⟩⟩
    have e1 : S.outV t = .int 0 := if_pos hout
    rw [e1]
    refine ⟨_, rfl, rfl, true, rfl, iteT ?_⟩
    refine ⟨_, rfl, _, rfl, by show 3 ≤ sizeLine; decide, fun e he => k e l _ (((s1.trans s2).trans s3).trans (same_new he)) upd_same ((same_new he) _ _ (s3 _ _ (s2 _ _ hl)))⟩
end
end My
set_option Elab.async false
set_option linter.all false
set_option maxRecDepth 100000
set_option maxHeartbeats 4000000
namespace My
open PySem PySem.Spec PyProof.Rows L2
section
variable {P : Program} {w : World} {K : PySem.W.Frag} {mg : Str → Option Value} {base : Heap}
/-! ### the source of the draws -/
def mi (H : Hp) (a : Addr) : Hp := fun b => if b = a then none else H b
theorem mi_ne {H : Hp} {a b : Addr} (h : b ≠ a) : mi H a b = H b := if_neg h
theorem mi_own {H : Hp} {a : Addr} : mi H a a = none := if_pos rfl
theorem mi_to {H : Hp} {a b : Addr} {o : HO} (h : mi H a b = some o) : b ≠ a ∧ H b = some o := by
  unfold mi at h
  split at h
  · cases h
  · exact ⟨by assumption, h⟩
theorem mi_same (H : Hp) (a : Addr) : Same (mi H a) H := fun b o h => (mi_to h).2
theorem mi_keep {H H2 : Hp} {a : Addr} (k : Keep H a H2) : Same (mi H a) (mi H2 a) := fun b o h => by
  obtain ⟨h1, h2⟩ := mi_to h
  rw [mi_ne h1]
  exact k b o h2 h1
theorem mi_mono {H H2 : Hp} {a : Addr} (k : Same H H2) : Same (mi H a) (mi H2 a) := fun b o h => by
  obtain ⟨h1, h2⟩ := mi_to h
  rw [mi_ne h1]
  exact k b o h2
theorem mi_upd (H : Hp) (a : Addr) (o : HO) : mi (upd H a o) a = mi H a := funext fun b => by
  unfold mi
  split
  · rfl
  · rename_i h
    exact upd_ne h
theorem Keep.of {H H2 : Hp} {a : Addr} (s : Same H H2) : Keep H a H2 := fun b o h _ => s b o h
theorem Keep.trans {H H2 H3 : Hp} {a : Addr} (k : Keep H a H2) (j : Keep H2 a H3) : Keep H a H3 := fun b o h n => j b o (k b o h n) n
def SrcAt (H : Hp) (a : Addr) (n : Nat) : Prop := ∃ x m k : Int, H a = some (.lst [.int x, .int m, .int k]) ∧ 0 ≤ x ∧ 0 ≤ m ∧ m < 2147483647 ∧ 0 ≤ k ∧ k ≤ n
theorem SrcAt.mono {H H2 : Hp} {a : Addr} {n : Nat} (s : Same H H2) (h : SrcAt H a n) : SrcAt H2 a n := by
  obtain ⟨x, m, k, h1, h2⟩ := h
  exact ⟨x, m, k, s _ _ h1, h2⟩
theorem SrcAt.le {H : Hp} {a : Addr} {n n' : Nat} (e : n ≤ n') (h : SrcAt H a n) : SrcAt H a n' := by
  obtain ⟨x, m, k, h1, h2, h3, h4, h5, h6⟩ := h
  exact ⟨x, m, k, h1, h2, h3, h4, h5, by omega⟩
theorem SrcAt.ne {H : Hp} {a l : Addr} {n : Nat} (h : SrcAt H a n) (hl : H l = none) : l ≠ a := fun e => by
  obtain ⟨x, m, k, h1, _⟩ := h
  rw [← e, hl] at h1
  cases h1
theorem log_small {n : Int} (h : 0 < n) (h2 : n ≤ 10000000000000000000000000000) : n.natAbs.log2 < 9000 := by
  have h3 : n.natAbs < 2 ^ 100 := by omega
  exact Nat.lt_of_lt_of_le ((Nat.log2_lt (by omega)).mpr h3) (by decide)
theorem pow5_nn {i : Int} (h : 0 ≤ i) (n : Nat) : 0 ≤ i ^ n := Int.pow_nonneg h
def sp_law_source_of (K : PySem.W.Frag) : Sp := fun vs H Q _ => ∃ c : Int, vs = [.int c] ∧ ∀ a H', Same H H' → H a = none → SrcAt H' a 0 → Q (.ref a) H'
theorem sc_law_source_of : FnScope ["_law_cell"] ["_law_cell"] (defScope s_law_source_of) := ⟨rfl, rfl, rfl, by decide +kernel, rfl, by decide +kernel, by decide +kernel⟩
theorem ok_law_source_of {f : Addr} {fd : FuncData} (F : FunD K "_law_source_of" "_law_source_of" (defArgs s_law_source_of) (defBody s_law_source_of) (defScope s_law_source_of) [] [] f fd) (T : Txt K mg)  :
    FnOk P w K mg base CX0 1 f fd ["_law_cell"] (sp_law_source_of K) := by
  refine F.ok sc_law_source_of (fun vs H Q E h => ?_) (fun cdv A outer s H vs Q E hr h => ?_)
  · obtain ⟨_, rfl, _⟩ := h
    rfl
  · have hu := hu_of hr
    obtain ⟨c, rfl, k⟩ := h
    refine ⟨_, PSs.nox ((pss_one (ps_ret (pe_lst (pa_cons (pe_op op_mul (pv 0) (pe_callTy call_int1 (by rfl) T.f_int (by decide +kernel) (pa_cons (pe_cmpR op_ge (pv 0) (pe_op op_pow pe_int pe_int) (nomark _)) pa_nil))) (pa_cons (pe_op op_mod (pe_callTy call_int1 (by rfl) T.f_int (by decide +kernel) (pa_cons (pv 0) pa_nil)) pe_int) (pa_cons pe_int pa_nil))))))), ?_⟩
    refine ⟨_, rfl, _, rfl, _, _, rfl, rfl, (by unfold CPow; decide), _, _, rfl, rfl, .inr ⟨_, rfl, _, _, rfl, rfl, .inr (by split <;> decide), ?_⟩⟩
    refine ⟨_, rfl, .inl ⟨_, rfl, _, _, rfl, rfl, (show (0 : Int) < 2147483647 by decide), ?_⟩⟩
    refine ⟨by show 3 ≤ sizeLine; decide, fun a ha => k a _ (same_new ha) ha ⟨_, _, _, upd_same, ?_, ?_, ?_, Int.le_refl _, Int.le_refl _⟩⟩
    · by_cases h : (10 : Int) ^ (18 : Int).toNat ≤ c
      · rw [decide_eq_true h]
        show 0 ≤ c * 1
        have : (0 : Int) ≤ (10 : Int) ^ (18 : Int).toNat := by decide
        omega
      · rw [decide_eq_false h]
        show 0 ≤ c * 0
        omega
    · exact Int.emod_nonneg _ (by decide)
    · exact Int.emod_lt_of_pos _ (by decide)
def sp_law_next (K : PySem.W.Frag) : Sp := fun vs H Q _ => ∃ (a : Addr) (n : Int) (b : Nat), vs = [.ref a, .int n] ∧ SrcAt H a b ∧ b ≤ 100000 ∧ 0 < n ∧ n ≤ 10000000000000000000000000000 ∧ ∀ H' r, Keep H a H' → SrcAt H' a (b + 1) → 0 ≤ r → r < n → Q (.int r) H'
theorem sc_law_next : FnScope ["_law_source", "_law_many", "_law_found", "_law_prime", "_law_figure"] ["_law_source", "_law_many"] (defScope s_law_next) := ⟨rfl, rfl, rfl, by decide +kernel, rfl, by decide +kernel, by decide +kernel⟩
theorem ok_law_next {f : Addr} {fd : FuncData} (F : FunD K "_law_next" "_law_next" (defArgs s_law_next) (defBody s_law_next) (defScope s_law_next) [] [] f fd) (T : Txt K mg)  :
    FnOk P w K mg base CX0 1 f fd ["_law_source", "_law_many"] (sp_law_next K) := by
  refine F.ok sc_law_next (fun vs H Q E h => ?_) (fun cdv A outer s H vs Q E hr h => ?_)
  · obtain ⟨_, _, _, rfl, _⟩ := h
    rfl
  · have hu := hu_of hr
    obtain ⟨a, n, b, rfl, hsrc, hb, hn, hn2, k⟩ := h
    obtain ⟨x, m, c, ha, hx, hm1, hm2, hc1, hc2⟩ := hsrc
    refine ⟨_, PSs.nox ((pss_cons (ps_if (pt_cmpR op_gt (pe_ix ix_list (pv 0) pe_int (fun _ _ => rfl)) pe_int (nomark _)) (pss_cons (ps_set (i := 2) sc_law_next.nd rfl (by first | exact Or.inl rfl | exact Or.inr rfl) (pe_op op_mod (pe_callTy call_int1 (by rfl) T.f_int (by decide +kernel) (pa_cons (pe_ix ix_list (pv 0) pe_int (fun _ _ => rfl)) pa_nil)) (pv 1)))
      (pss_cons (ps_asg (pe_op op_fdivW (pe_ix ix_list (pv 0) pe_int (fun _ _ => rfl)) (pv 1)) (pg_sub (pv 0) pe_int set_list))
      (pss_one (ps_ret (pv 2))))) pss_nil)
      (pss_cons (ps_asg (pe_op op_add (pe_ix ix_list (pv 0) pe_int (fun _ _ => rfl)) pe_int) (pg_sub (pv 0) pe_int set_list))
      (pss_cons (ps_set (i := 3) sc_law_next.nd rfl (by first | exact Or.inl rfl | exact Or.inr rfl) (pe_ix ix_list (pe_lst (pa_cons pe_int (pa_cons pe_int (pa_cons pe_int (pa_cons pe_int (pa_cons pe_int (pa_cons pe_int (pa_cons pe_int pa_nil)))))))) (pe_op op_mod (pe_callTy call_int1 (by rfl) T.f_int (by decide +kernel) (pa_cons (pe_ix ix_list (pv 0) pe_int (fun _ _ => rfl)) pa_nil)) pe_int) (fun _ _ => rfl)))
      (pss_cons (ps_set (i := 4) sc_law_next.nd rfl (by first | exact Or.inl rfl | exact Or.inr rfl) (pe_op op_mod (pe_callTy call_int1 (by rfl) T.f_int (by decide +kernel) (pa_cons (pe_op op_pow (pe_op op_add (pe_op op_add (pe_ix ix_list (pv 0) pe_int (fun _ _ => rfl)) (pe_op op_mul pe_int (pe_ix ix_list (pv 0) pe_int (fun _ _ => rfl)))) pe_int) pe_int) pa_nil)) (pv 3)))
      (pss_cons (ps_set (i := 4) sc_law_next.nd rfl (by first | exact Or.inl rfl | exact Or.inr rfl) (pe_op op_mod (pe_callTy call_int1 (by rfl) T.f_int (by decide +kernel) (pa_cons (pe_op op_mul (pe_op op_add (pv 4) (pe_ix ix_list (pv 0) pe_int (fun _ _ => rfl))) (pe_op op_add (pe_op op_fdiv (pv 4) pe_int) pe_int)) pa_nil)) (pv 3)))
      (pss_one (ps_ret (pe_op op_mod (pe_callTy call_int1 (by rfl) T.f_int (by decide +kernel) (pa_cons (pe_op op_fdiv (pv 4) pe_int) pa_nil)) (pv 1)))))))))), ?_⟩
    refine ⟨_, rfl, a, _, _, _, rfl, rfl, SqL.of ha, rfl, _, _, rfl, rfl, _, rfl, ?_⟩
    refine ite2 (fun hpos => ?_) (fun hpos => ?_)
    · have hx0 : 0 < x := of_decide_eq_true hpos
      refine ⟨_, rfl, a, _, _, _, rfl, rfl, SqL.of ha, rfl, .inl ⟨_, rfl, _, rfl, _, _, rfl, rfl, hn, ?_⟩⟩
      refine ⟨_, rfl, a, _, _, _, rfl, rfl, SqL.of ha, rfl, _, rfl, _, _, rfl, rfl, ⟨hn, log_small hn hn2⟩, ?_⟩
      refine ⟨_, rfl, a, _, _, 0, rfl, rfl, ha, rfl, ?_⟩
      refine ⟨_, rfl, ?_⟩
      exact k _ _ (Keep.own fun b o hb _ => hb) ⟨_, _, _, upd_same, Int.ediv_nonneg (by omega) (by omega), hm1, hm2, hc1, by omega⟩ (Int.emod_nonneg _ (by omega)) (Int.emod_lt_of_pos _ hn)
    · refine ⟨_, rfl, a, _, _, _, rfl, rfl, SqL.of ha, rfl, _, _, rfl, rfl, ?_⟩
      refine ⟨_, rfl, a, _, _, 2, rfl, rfl, ha, rfl, ?_⟩
      have ha1 : (upd H a (.lst (([V.int x, V.int m, V.int c]).set 2 (V.int (c + 1))))) a = some (.lst [.int x, .int m, .int (c + 1)]) := upd_same
      have hk1 : Keep H a (upd H a (.lst (([V.int x, V.int m, V.int c]).set 2 (V.int (c + 1))))) := Keep.own fun b o hb _ => hb
      generalize upd H a (.lst (([V.int x, V.int m, V.int c]).set 2 (V.int (c + 1)))) = H1 at ha1 hk1
      refine ⟨by show 7 ≤ sizeLine; decide, fun l hl => ?_⟩
      have s1 : Same H1 (upd H1 l (.lst [.int 2147483647, .int 2147483629, .int 2147483587, .int 2147483579, .int 2147483563, .int 2147483549, .int 2147483543])) := same_new hl
      have ha2 := s1 _ _ ha1
      have hk2 := hk1.same s1
      have hr0 := Int.emod_nonneg (c + 1) (show (7 : Int) ≠ 0 by decide)
      have hr7 := Int.emod_lt_of_pos (c + 1) (show (0 : Int) < 7 by decide)
      have hpr : ∃ pr : Int, atI [V.int 2147483647, V.int 2147483629, V.int 2147483587, V.int 2147483579, V.int 2147483563, V.int 2147483549, V.int 2147483543] ((c + 1) % 7) = some (.int pr) ∧ 0 < pr ∧ pr ≤ 2147483647 := by
        generalize (c + 1) % 7 = r at hr0 hr7
        obtain ⟨j, rfl⟩ : ∃ j : Nat, r = j := ⟨r.toNat, by omega⟩
        rcases (show j = 0 ∨ j = 1 ∨ j = 2 ∨ j = 3 ∨ j = 4 ∨ j = 5 ∨ j = 6 by omega) with rfl | rfl | rfl | rfl | rfl | rfl | rfl
        all_goals exact ⟨_, rfl, by decide, by decide⟩
      obtain ⟨pr, hat, hp0, hp1⟩ := hpr
      refine ⟨_, rfl, a, _, _, _, rfl, rfl, SqL.of ha2, rfl, .inl ⟨_, rfl, _, _, rfl, rfl, (show (0 : Int) < 7 by decide), l, _, _, _, rfl, rfl, SqL.of upd_same, hat, ?_⟩⟩
      generalize upd H1 l (.lst [.int 2147483647, .int 2147483629, .int 2147483587, .int 2147483579, .int 2147483563, .int 2147483549, .int 2147483543]) = H2 at ha2 hk2
      refine ⟨_, rfl, a, _, _, _, rfl, rfl, SqL.of ha2, rfl, _, rfl, a, _, _, _, rfl, rfl, SqL.of ha2, rfl, _, _, rfl, rfl, .inl ⟨by decide, by decide⟩, _, _, rfl, rfl, _, _, rfl, rfl, _, _, rfl, rfl, ⟨by decide, by decide, ?_⟩, .inl ⟨_, rfl, _, rfl, _, _, rfl, rfl, hp0, ?_⟩⟩
      · show (m + 7919 * (c + 1) + 1).natAbs < 2 ^ 64
        omega
      have hfig := Int.emod_nonneg ((m + 7919 * (c + 1) + 1) ^ (5 : Int).toNat) (show pr ≠ 0 by omega)
      have hfig2 := Int.emod_lt_of_pos ((m + 7919 * (c + 1) + 1) ^ (5 : Int).toNat) hp0
      generalize hfe : ((m + 7919 * (c + 1) + 1) ^ (5 : Int).toNat) % pr = fig at hfig hfig2
      refine ⟨_, rfl, _, rfl, a, _, _, _, rfl, rfl, SqL.of ha2, rfl, _, _, rfl, rfl, _, rfl, _, _, rfl, rfl, (show (0 : Int) < 1009 ∧ (1009 : Int) < 1073741824 by decide), _, _, rfl, rfl, _, _, rfl, rfl, .inl ?_, .inl ⟨_, rfl, _, rfl, _, _, rfl, rfl, hp0, ?_⟩⟩
      · show -(2 ^ 64) < ((m + 7919 * (c + 1) + 1) ^ (5 : Int).toNat) % pr + (c + 1) ∧ ((m + 7919 * (c + 1) + 1) ^ (5 : Int).toNat) % pr + (c + 1) < 2 ^ 64
        rw [hfe]
        omega
      refine ⟨_, rfl, _, _, rfl, rfl, (show (0 : Int) < 7 ∧ (7 : Int) < 1073741824 by decide), .inl ⟨_, rfl, _, rfl, _, _, rfl, rfl, hn, ?_⟩⟩
      exact k _ _ hk2 ⟨_, _, _, ha2, hx, hm1, hm2, by omega, by omega⟩ (Int.emod_nonneg _ (by omega)) (Int.emod_lt_of_pos _ hn)
def sp_law_one (K : PySem.W.Frag) : Sp := fun vs H Q _ => ∃ (a l : Addr) (xs : List V) (b : Nat), vs = [.ref a, .ref l] ∧ SrcAt H a b ∧ b ≤ 100000 ∧ H l = some (.lst xs) ∧ l ≠ a ∧ 0 < xs.length ∧ xs.length ≤ 1000 ∧ ∀ H' v, Keep H a H' → SrcAt H' a (b + 1) → v ∈ xs → Q v H'
theorem sc_law_one : FnScope ["_law_source", "_law_options"] ["_law_source", "_law_options"] (defScope s_law_one) := ⟨rfl, rfl, rfl, by decide +kernel, rfl, by decide +kernel, by decide +kernel⟩
theorem ok_law_one {f : Addr} {fd : FuncData} (F : FunD K "_law_one" "_law_one" (defArgs s_law_one) (defBody s_law_one) (defScope s_law_one) [] [] f fd) (T : Txt K mg) (c_law_next : C8.Cal P w K mg base 1 "_law_next" (sp_law_next K) []) :
    FnOk P w K mg base CX0 2 f fd ["_law_source", "_law_options"] (sp_law_one K) := by
  refine F.ok sc_law_one (fun vs H Q E h => ?_) (fun cdv A outer s H vs Q E hr h => ?_)
  · obtain ⟨_, _, _, _, rfl, _⟩ := h
    rfl
  · have hu := hu_of hr
    obtain ⟨a, l, xs, b, rfl, hsrc, hb, hl, nla, h0, h1, k⟩ := h
    refine ⟨_, PSs.nox ((pss_one (ps_ret (pe_ix ix_list (pv 1) (C8.pe_c c_law_next hr (by decide) (by rfl) (pa_cons (pv 0) (pa_cons (pe_callB call_len_seq (by rfl) T.f_len (by decide +kernel) (pa_cons (pv 1) pa_nil)) pa_nil))) (fun _ _ => rfl))))), ?_⟩
    refine ⟨_, rfl, _, rfl, _, rfl, l, _, rfl, .inl (SqL.of hl), a, _, b, rfl, hsrc, hb, by omega, by omega, fun H' r kp hs2 hr1 hr2 => ?_⟩
    obtain ⟨j, rfl⟩ : ∃ j : Nat, r = j := ⟨r.toNat, by omega⟩
    have hj : j < xs.length := by omega
    exact ⟨l, _, _, xs[j], rfl, rfl, SqL.of (kp _ _ hl nla), atI_nat (List.getElem?_eq_getElem hj), k H' _ kp hs2 (List.getElem_mem hj)⟩
def sp_law_cell_at (K : PySem.W.Frag) : Sp := fun vs H Q _ => ∃ (a : Addr) (ns : List Int) (j : Nat), vs = [.ref a, .int j] ∧ SqL K H a (ns.map V.int) ∧ ∀ z : Int, Q (.int z) H
theorem sc_law_cell_at : FnScope ["_law_script", "_law_k"] ["_law_script", "_law_k"] (defScope s_law_cell_at) := ⟨rfl, rfl, rfl, by decide +kernel, rfl, by decide +kernel, by decide +kernel⟩
theorem ok_law_cell_at {f : Addr} {fd : FuncData} (F : FunD K "_law_cell_at" "_law_cell_at" (defArgs s_law_cell_at) (defBody s_law_cell_at) (defScope s_law_cell_at) [] [] f fd) (T : Txt K mg)  :
    FnOk P w K mg base CX0 1 f fd ["_law_script", "_law_k"] (sp_law_cell_at K) := by
  refine F.ok sc_law_cell_at (fun vs H Q E h => ?_) (fun cdv A outer s H vs Q E hr h => ?_)
  · obtain ⟨_, _, _, rfl, _⟩ := h
    rfl
  · have hu := hu_of hr
    obtain ⟨a, ns, j, rfl, ha, k⟩ := h
    refine ⟨_, PSs.nox ((pss_cons (ps_if (pt_cmpR op_lt (pv 1) (pe_callB call_len_seq (by rfl) T.f_len (by decide +kernel) (pa_cons (pv 0) pa_nil)) (nomark _)) (pss_one (ps_ret (pe_ix ix_list (pv 0) (pv 1) (fun _ _ => rfl)))) pss_nil)
      (pss_one (ps_ret pe_int)))), ?_⟩
    refine ⟨_, rfl, _, rfl, a, _, rfl, .inl ha, _, _, rfl, rfl, _, rfl, ?_⟩
    refine ite2 (fun hc => ?_) (fun hc => ?_)
    · have hlt := of_decide_eq_true hc
      have hlen : (ns.map V.int).length = ns.length := List.length_map ..
      have hj : j < ns.length := by omega
      have hat : (ns.map V.int)[j]? = some (.int ns[j]) := by rw [List.getElem?_map, List.getElem?_eq_getElem hj]; rfl
      exact ⟨_, rfl, _, rfl, a, _, _, _, rfl, rfl, ha, atI_nat hat, k _⟩
    · exact k 0
end
end My
set_option Elab.async false
set_option linter.all false
set_option maxRecDepth 100000
set_option maxHeartbeats 4000000
namespace My
open PySem PySem.Spec PyProof.Rows L2
section
variable {P : Program} {w : World} {K : PySem.W.Frag} {mg : Str → Option Value} {base : Heap}
/-! ### what the law compares -/
section
variable {X : Cx} {K : PySem.W.Frag} {o e : Expr} {es : List Expr} {to : TE} {t : TA} {name : Str} {apos cpos : Pos} {T id : String} {r : V → List V → Hp → VK → Prop}
theorem pe_bmK (hK : X.K = K) (pa : PlainAttrs T) (slot : Slot T name id) (hty : typeOf (.builtin id) = pure (.type "method_descriptor")) (hm : MtR X id r) (ho : PE X o to) (ha : PA X (e :: es) t)
    (hbase : attributeBase o name X.env (eval o X.env) = eval o X.env := by rfl)
    (hfew : ((backTo cpos (starEach (e :: es) X.env)).all (fun x => !x.1) && (backToKw cpos (keywordEach [] X.env)).all (fun x => x.1.isSome)
      && decide ((e :: es).length + ([] : List Keyword).length + (if ([] : List Keyword).isEmpty then 0 else 1) < 30)) = true := by rfl)
    (hline : (apos.endLine == cpos.line) = true := by rfl) (hs : starEach (e :: es) X.env = (false, eval e X.env) :: starEach es X.env := by rfl) (hplain : (backTo cpos (starEach es X.env)).any (·.1) = false := by rfl) :
    PE X (.Call (.Attribute o name apos) (e :: es) [] cpos) (tBM K T r to t) := by
  subst hK
  exact pe_bm pa slot hty hm ho ha hbase hfew hline hs hplain
theorem mt_lcountK (hK : X.K = K) : MtR X "list.count" (rCntI K) := by
  subst hK
  exact mt_lcount
end
def prI (q : Int × Int) : PyData := .tuple [.int q.1, .int q.2]
theorem ints_lay : ∀ zs : List Int, PyData.canLayAll0 (zs.map PyData.int) = true
  | [] => by simp [PyData.canLayAll0]
  | z :: zs => by simp [PyData.canLayAll0, PyData.canLay0, ints_lay zs]
theorem ints_depth : ∀ zs : List Int, PyData.depthAll (zs.map PyData.int) ≤ 1
  | [] => by simp [PyData.depthAll]
  | z :: zs => by
    have := ints_depth zs
    simp only [List.map_cons, PyData.depthAll, PyData.depth]
    omega
theorem prI_lay (q : Int × Int) : (prI q).canLay0 = true := by simp [prI, PyData.canLay0, PyData.canLayAll0]
theorem prI_depth (q : Int × Int) : (prI q).depth ≤ 2 := by
  simp only [prI, PyData.depth, PyData.depthAll]
  omega
theorem prIs_lay : ∀ zs : List (Int × Int), PyData.canLayAll0 (zs.map prI) = true
  | [] => by simp [PyData.canLayAll0]
  | z :: zs => by simp [PyData.canLayAll0, prI_lay z, prIs_lay zs]
theorem prIs_depth : ∀ zs : List (Int × Int), PyData.depthAll (zs.map prI) ≤ 2
  | [] => by simp [PyData.depthAll]
  | z :: zs => by
    have h1 := prI_depth z
    have h2 := prIs_depth zs
    simp only [List.map_cons, PyData.depthAll]
    omega
/-- ('outage', 0, clients) -/
def evD (zs : List Int) : PyData := .tuple [.str "outage", .int 0, .list (zs.map PyData.int)]
theorem evD_lay (zs : List Int) : (evD zs).canLay0 = true := by
  have h : PyData.strOk "outage" = true := by decide +kernel
  simp [evD, PyData.canLay0, PyData.canLayAll0, ints_lay zs, h]
theorem evD_depth (zs : List Int) : (evD zs).depth ≤ 64 := by
  have := ints_depth zs
  simp only [evD, PyData.depth, PyData.depthAll]
  omega
/-- (word, pairs) -/
def logD (x : Str) (zs : List (Int × Int)) : PyData := .tuple [.str x, .list (zs.map prI)]
theorem logD_lay {x : Str} (hx : PyData.strOk x = true) (zs : List (Int × Int)) : (logD x zs).canLay0 = true := by simp [logD, PyData.canLay0, PyData.canLayAll0, prIs_lay zs, hx]
theorem logD_depth (x : Str) (zs : List (Int × Int)) : (logD x zs).depth ≤ 64 := by
  have := prIs_depth zs
  simp only [logD, PyData.depth, PyData.depthAll]
  omega
theorem shaped_by {d : PyData} (h1 : d.canLay0 = true) (h2 : d.depth ≤ 64) : SeqAt.shaped d = true := by
  unfold SeqAt.shaped
  rw [h1, decide_eq_true h2]
  rfl
/-- two things of the same data are not unequal -/
theorem neD_same {K : PySem.W.Frag} {H : Hp} {x y : V} {d : PyData} {Q : VK} (h1 : d.canLay0 = true) (h2 : d.depth ≤ 64) (hx : Dp K H x d) (hy : Dp K H y d) (q : Q (.bl false) H) : rNeD K x y H Q := by
  refine ⟨d, d, hx, hy, shaped_by h1 h2, shaped_by h1 h2, ?_⟩
  rw [PySem.SeqAt.eqv_refl d h1]
  exact q
theorem dpA_ints {K : PySem.W.Frag} {H : Hp} : ∀ zs : List Int, DpAll K H (zs.map V.int) (zs.map PyData.int)
  | [] => .nil
  | z :: zs => .cons (.int z) (dpA_ints zs)
theorem dpA_pairs {K : PySem.W.Frag} {H : Hp} : ∀ {ts : List Addr} {zs : List (Int × Int)}, Paired (fun (t : Addr) (q : Int × Int) => H t = some (.tup [.int q.1, .int q.2])) ts zs → DpAll K H (ts.map V.ref) (zs.map prI)
  | _, _, .nil => .nil
  | _, _, .cons h t => .cons (.tup (SqT.of h) (.cons (.int _) (.cons (.int _) .nil))) (dpA_pairs t)
theorem dp_log {K : PySem.W.Frag} {H : Hp} {t d : Addr} {x : Str} {zs : List (Int × Int)} (ht : H t = some (.tup [.str x, .ref d])) (hd : PairsAt H d zs) : Dp K H (.ref t) (logD x zs) := by
  obtain ⟨ts, h1, h2⟩ := hd
  exact .tup (SqT.of ht) (.cons (.str x) (.cons (.lst (SqL.of h1) (dpA_pairs h2)) .nil))
theorem dp_ev {K : PySem.W.Frag} {H : Hp} {t l : Addr} {cs : List Nat} (ht : H t = some (.tup [.str "outage", .int 0, .ref l])) (hl : H l = some (.lst (cs.map fun c : Nat => V.int (c : Int)))) : Dp K H (.ref t) (evD (cs.map fun c : Nat => (c : Int))) := by
  have e : (cs.map fun c : Nat => V.int (c : Int)) = (cs.map fun c : Nat => (c : Int)).map V.int := by rw [List.map_map]; rfl
  rw [e] at hl
  exact .tup (SqT.of ht) (.cons (.str _) (.cons (.int 0) (.cons (.lst (SqL.of hl) (dpA_ints _)) .nil)))
theorem cut_take (xs : List Int) {j : Nat} (h : j ≤ xs.length) : cutV (xs.map V.int) none (some (j : Int)) = (xs.take j).map V.int := by
  unfold cutV
  rw [HT.sIx_nat, HT.sIx_none, List.length_map, Nat.min_eq_left h, Nat.sub_zero, List.drop_zero, List.map_take]
theorem cut_drop (xs : List Int) {j : Nat} (h : j ≤ xs.length) : cutV (xs.map V.int) (some (j : Int)) none = (xs.drop j).map V.int := by
  unfold cutV
  rw [HT.sIx_nat, HT.sIx_none, List.length_map, Nat.min_eq_left h, ← List.map_drop, List.take_of_length_le]
  rw [List.length_map, List.length_drop]
  exact Nat.le_refl _
theorem cut_ints (xs : List Int) (lo hi : Option Int) : ∃ ys : List Int, cutV (xs.map V.int) lo hi = ys.map V.int ∧ ys.length ≤ xs.length := by
  refine ⟨(xs.drop (HT.sIx xs.length 0 lo)).take (HT.sIx xs.length xs.length hi - HT.sIx xs.length 0 lo), ?_, ?_⟩
  · unfold cutV
    rw [List.length_map, List.map_take, List.map_drop]
  · rw [List.length_take, List.length_drop]
    omega
theorem cnt_att (S : Sc) (t : Int) : cnt S.R S.ss t = (S.att t).length := by
  unfold cnt Sc.att
  rw [← List.countP_eq_length_filter]
  have e : S.ss = (List.range S.ss.length).map S.at := by
    refine List.ext_getElem (by simp) fun i h1 h2 => ?_
    unfold Sc.at
    simp [List.getD_eq_getElem?_getD, h1]
  conv => lhs; rw [e]
  rw [List.countP_map]
  rfl
/-! ### facts away from the source -/
theorem RuleAt.away {H : Hp} {a p : Addr} {R : Ru} {od : Obj} {u : HO} (h : RuleAt K H p R) (ha : H a = some (.frz od u)) : RuleAt K (mi H a) p R := by
  obtain ⟨dx, l, t, s, h1, h2, h3, h4⟩ := h.ex
  have nn : ∀ {b : Addr} {x : HO}, H b = some x → (∀ o' u', x ≠ .frz o' u') → mi H a b = some x := fun hb hx => by
    rw [mi_ne (ne_of hb ha (hx _ _))]; exact hb
  exact ⟨h.ok, dx, l, t, s, nn h1 (fun _ _ z => by cases z), nn h2 (fun _ _ z => by cases z), nn h3 (fun _ _ z => by cases z), nn h4 (fun _ _ z => by cases z)⟩
theorem SceneAt.away {H : Hp} {a s p : Addr} {S : Sc} {od : Obj} {u : HO} (h : SceneAt K H s p S) (ha : H a = some (.frz od u)) : SceneAt K (mi H a) s p S := by
  obtain ⟨dx, l, t, q, h1, h2, h3, h4⟩ := h.ex
  have nn : ∀ {b : Addr} {x : HO}, H b = some x → (∀ o' u', x ≠ .frz o' u') → mi H a b = some x := fun hb hx => by
    rw [mi_ne (ne_of hb ha (hx _ _))]; exact hb
  exact ⟨h.rule.away ha, dx, l, t, q, nn h1 (fun _ _ z => by cases z), nn h2 (fun _ _ z => by cases z), nn h3 (fun _ _ z => by cases z), nn h4 (fun _ _ z => by cases z)⟩
theorem FinAt.away {H : Hp} {a u s p : Addr} {S : Sc} {od : Obj} {uu : HO} (h : FinAt K H u s p S) (ha : H a = some (.frz od uu)) : FinAt K (mi H a) u s p S := by
  obtain ⟨bg, cg, sv, cl, wt, chg, st, Hb, hX, g⟩ := h
  have nn : ∀ {b : Addr} {x : HO}, H b = some x → (∀ o' u', x ≠ .frz o' u') → b ≠ a ∧ mi H a b = some x := fun hb hx => by
    have h1 := ne_of hb ha (hx _ _)
    exact ⟨h1, by rw [mi_ne h1]; exact hb⟩
  have n0 : ∀ {b : Addr}, b ≠ a → Hb b = none → mi Hb a b = none := fun hb h0 => by rw [mi_ne hb]; exact h0
  have nb : ∀ {b : Addr} {x : HO}, Hb b = some x → (∀ o' u', x ≠ .frz o' u') → mi Hb a b = some x := fun hb hx => by
    rw [mi_ne (nn (hX.same _ _ hb) hx).1]; exact hb
  obtain ⟨dx, h1⟩ := hX.obj
  obtain ⟨svk, h2, h3⟩ := hX.hsv
  obtain ⟨clk, h4, h5⟩ := hX.hcl
  have e1 := nn h1 (fun _ _ z => by cases z)
  have e2 := nn h2 (fun _ _ z => by cases z)
  have e4 := nn h4 (fun _ _ z => by cases z)
  have ew := nn hX.hwt (fun _ _ z => by cases z)
  have hsc : SceneAt K (mi Hb a) s p S := by
    obtain ⟨dx, l, t, q, h1, h2, h3, h4⟩ := hX.scene.ex
    obtain ⟨dx2, rl, rt, rs, r1, r2, r3, r4⟩ := hX.scene.rule.ex
    exact ⟨⟨hX.scene.rule.ok, dx2, rl, rt, rs, nb r1 (fun _ _ z => by cases z), nb r2 (fun _ _ z => by cases z), nb r3 (fun _ _ z => by cases z), nb r4 (fun _ _ z => by cases z)⟩, dx, l, t, q, nb h1 (fun _ _ z => by cases z), nb h2 (fun _ _ z => by cases z), nb h3 (fun _ _ z => by cases z), nb h4 (fun _ _ z => by cases z)⟩
  refine ⟨bg, cg, sv, cl, wt, chg, st, mi Hb a, ⟨mi_mono hX.same, hsc, nb hX.hbg (fun _ _ z => by cases z), nb hX.hcg (fun _ _ z => by cases z), ⟨dx, e1.2⟩, n0 e1.1 hX.u0, n0 e2.1 hX.sv0, n0 e4.1 hX.cl0, n0 ew.1 hX.wt0, ⟨svk, e2.2, L2.Paired.mapP h3 fun _ _ => SvG.mono fun t xs q => (nn q (fun _ _ z => by cases z)).2⟩, ⟨clk, e4.2, h5⟩, ew.2, hX.n1, hX.n2, hX.n3⟩, g⟩
theorem PairsAt.away {H : Hp} {a d : Addr} {ps : List (Int × Int)} {n : Nat} (h : PairsAt H d ps) (hs : SrcAt H a n) : PairsAt (mi H a) d ps := by
  obtain ⟨ts, h1, h2⟩ := h
  obtain ⟨x, m, k, ha, _⟩ := hs
  refine ⟨ts, ?_, L2.Paired.mapP h2 fun t q ht => ?_⟩
  · rw [mi_ne ?_]
    · exact h1
    · intro e
      rw [e, ha] at h1
      injection h1 with h1
      injection h1 with h1
      cases ts with
      | nil => cases h1
      | cons t ts =>
        rw [List.map_cons] at h1
        injection h1 with h1
        cases h1
  · rw [mi_ne (ne_of ht ha (by intro z; cases z))]
    exact ht
theorem hu64_of {k : Nat} {A : Around} (hr : Room k A) : A.units + 64 < cLine := by
  have := hr.un
  omega
theorem SrcAt.new {H : Hp} {s l : Addr} {n : Nat} {o : HO} (h : SrcAt H s n) (hl : H l = none) : SrcAt (upd H l o) s n := h.mono (same_new hl)
theorem mi_at {H : Hp} {s l : Addr} {n : Nat} {o : HO} (h : SrcAt H s n) (hl : H l = none) : mi (upd H l o) s l = some o := by
  rw [mi_ne (h.ne hl), upd_same]
theorem make_lock {H : Hp} {s x dx C : Addr} {xs : List V} (hx : H x = none) (hdx : H dx = none) (hs : H s = some (.lst xs)) :
    (upd (upd H dx (.own x)) x (.ins C dx [])) s = some (.lst xs) ∧ (∀ od, (upd (upd (upd H dx (.own x)) x (.ins C dx [])) s (.frz od (.lst xs))) x = some (.ins C dx [])) ∧
    ∀ od b o, mi H s b = some o → (upd (upd (upd H dx (.own x)) x (.ins C dx [])) s (.frz od (.lst xs))) b = some o ∧ b ≠ x := by
  have n1 := ne_of_none hs hx
  refine ⟨by rw [upd_ne n1, upd_ne (ne_of_none hs hdx)]; exact hs, fun od => by rw [upd_ne n1.symm, upd_same], fun od b o hb => ?_⟩
  obtain ⟨h1, h2⟩ := mi_to hb
  have h3 := ne_of_none h2 hx
  exact ⟨by rw [upd_ne h1, upd_ne h3, upd_ne (ne_of_none h2 hdx)]; exact h2, h3⟩
theorem FinAt.md {H : Hp} {u s p : Addr} {S : Sc} {m : Str} (h : FinAt K H u s p S) (hm : ∀ s p bg cg sv cl wt fr, (ufs s p bg cg sv cl wt fr).lookup m = none) : Md H (.ref u) (cU K) m := by
  obtain ⟨bg, cg, sv, cl, wt, chg, st, Hb, hX, g⟩ := h
  exact hX.rv.md hm
end
end My
set_option Elab.async false
set_option linter.all false
set_option maxRecDepth 100000
set_option maxHeartbeats 4000000
namespace My
open PySem PySem.Spec PyProof.Rows L2
section
variable {P : Program} {w : World} {K : PySem.W.Frag} {mg : Str → Option Value} {base : Heap}
def sp_law (K : PySem.W.Frag) : Sp := fun vs H Q _ => ∃ (a : Addr) (ns : List Int), vs = [.ref a] ∧ SqL K H a (ns.map V.int) ∧ ns.length ≤ 63 ∧ ∀ H', Q (.bl true) H'
theorem sc_law : FnScope ["_law_script", "_law_cell", "_law_source", "_law_gaps", "_law_tail", "_law_rule", "_law_shift", "_law_starts", "_law_window", "_law_run", "_law_log", "_law_counts", "_law_slot", "_law_found", "_law_due", "_law_some", "_law_k", "_law_start", "_law_one_here"] ["_law_script"] (defScope s_law) := ⟨rfl, rfl, rfl, by decide +kernel, rfl, by decide +kernel, by decide +kernel⟩
theorem ok_law {f : Addr} {fd : FuncData} (F : FunD K "law" "law" (defArgs s_law) (defBody s_law) (defScope s_law) [] [] f fd) (T : Txt K mg) (c_Rule : C8.Mak P w K mg base 4 "Rule" (cR K) (sp_Rule_init K) []) (c_Run : C8.Mak P w K mg base 7 "Run" (cU K) (lockSp 2 (sp_Run_init K)) []) (c_Scene : MakS P w K mg base 4 (lockSp 5 (sp_Scene_init K))) (c_U_attempting : C8.Met P w K mg base 6 (cU K) "attempting" (sp_Run_attempting K) []) (c_U_event : C8.Met P w K mg base 7 (cU K) "event" (sp_Run_event K) []) (c_U_outcomes : C8.Met P w K mg base 5 (cU K) "outcomes" (sp_Run_outcomes K) []) (c_expected_log : C8.Cal P w K mg base 6 "expected_log" (sp_expected_log K) []) (c_infer_starts : C8.Cal P w K mg base 5 "infer_starts" (sp_infer_starts K) []) (c_law_cell_at : C8.Cal P w K mg base 1 "_law_cell_at" (sp_law_cell_at K) []) (c_law_next : C8.Cal P w K mg base 1 "_law_next" (sp_law_next K) []) (c_law_one : C8.Cal P w K mg base 2 "_law_one" (sp_law_one K) []) (c_law_source_of : C8.Cal P w K mg base 1 "_law_source_of" (sp_law_source_of K) []) (c_remaining_log : C8.Cal P w K mg base 6 "remaining_log" (sp_remaining_log K) []) :
    FnOk P w K mg base CX0 9 f fd ["_law_script"] (sp_law K) := by
  refine F.ok sc_law (fun vs H Q E h => ?_) (fun cdv A outer s H vs Q E hr h => ?_)
  · obtain ⟨_, _, rfl, _⟩ := h
    rfl
  · have hu := hu_of hr
    obtain ⟨a, ns, rfl, hS, h63, k⟩ := h
    have hu64 := hu64_of hr
    refine ⟨_, PSs.nox ((pss_cons (ps_for PassesOwn.never rfl (pi_list (pe_op op_cat (pe_lst (pa_cons (C8.pe_c c_law_cell_at hr (by decide) (by rfl) (pa_cons (pv 0) (pa_cons pe_int pa_nil))) pa_nil)) (pe_slice sl_list (pv 0) (po_some pe_int) (po_some pe_int)))) (pg_name (i := 1) sc_law.nd rfl (by first | exact Or.inl rfl | exact Or.inr rfl)) (pss_cons (ps_set (i := 2) sc_law.nd rfl (by first | exact Or.inl rfl | exact Or.inr rfl) (C8.pe_c c_law_source_of hr (by decide) (by rfl) (pa_cons (pv 1) pa_nil)))
      (pss_cons (ps_setLc (i := 3) (own := [("_law_k", 16)]) (g := (gName 16)) (tt := tYes) rfl sc_law.nd rfl rfl (sw_true rfl rfl rfl (by decide +kernel)) (pi_range1 (by rfl) T.f_range (pa_cons (pe_op op_add pe_int (C8.pe_c c_law_next hr (by decide) (by rfl) (pa_cons (pv 2) (pa_cons pe_int pa_nil)))) pa_nil)) (blkOk_by (own := [("_law_k", 16)]) (N := ["_law_script", "_law_cell", "_law_source", "_law_gaps", "_law_tail", "_law_rule", "_law_shift", "_law_starts", "_law_window", "_law_run", "_law_log", "_law_counts", "_law_slot", "_law_found", "_law_due", "_law_some", "_law_k", "_law_start", "_law_one_here"]) (sc := defScope s_law) (by decide +kernel)) (fun _ _ _ _ _ => (pg_name (i := 16) sc_law.nd rfl (by first | exact Or.inl rfl | exact Or.inr rfl))) (fun _ _ _ _ _ => pts_nil) (fun _ _ _ _ _ => (pe_op op_add pe_int (C8.pe_c c_law_next hr (by decide) (by rfl) (pa_cons (pv 2) (pa_cons (C8.pe_c c_law_one hr (by decide) (by rfl) (pa_cons (pv 2) (pa_cons (pe_lst (pa_cons pe_int (pa_cons pe_int pa_nil))) pa_nil))) pa_nil))))))
      (pss_cons (ps_set (i := 4) sc_law.nd rfl (by first | exact Or.inl rfl | exact Or.inr rfl) (C8.pe_c c_law_one hr (by decide) (by rfl) (pa_cons (pv 2) (pa_cons (pe_lst (pa_cons (pe_tup (pa_cons pe_str pa_nil)) (pa_cons (pe_tup (pa_cons pe_str (pa_cons pe_int pa_nil))) (pa_cons (pe_tup (pa_cons pe_str (pa_cons pe_int pa_nil))) (pa_cons (pe_tup (pa_cons pe_str (pa_cons (pe_op op_add pe_int (C8.pe_c c_law_next hr (by decide) (by rfl) (pa_cons (pv 2) (pa_cons (pe_callB call_len_seq (by rfl) T.f_len (by decide +kernel) (pa_cons (pv 3) pa_nil)) pa_nil)))) pa_nil))) pa_nil))))) pa_nil))))
      (pss_cons (ps_lock (ps_set (i := 5) sc_law.nd rfl (by first | exact Or.inl rfl | exact Or.inr rfl) (C8.pe_mk c_Rule hr (by decide) (by rfl) (pa_cons (pv 3) (pa_cons (pv 4) pa_nil)))))
      (pss_cons (ps_set (i := 6) sc_law.nd rfl (by first | exact Or.inl rfl | exact Or.inr rfl) (C8.pe_c c_law_one hr (by decide) (by rfl) (pa_cons (pv 2) (pa_cons (pe_lst (pa_cons pe_int (pa_cons (pe_op op_sub pe_int (pe_op op_pow pe_int pe_int)) (pa_cons (C8.pe_c c_law_next hr (by decide) (by rfl) (pa_cons (pv 2) (pa_cons (pe_op op_pow pe_int pe_int) pa_nil))) pa_nil)))) pa_nil))))
      (pss_cons (ps_set (i := 7) sc_law.nd rfl (by first | exact Or.inl rfl | exact Or.inr rfl) (pe_lc (own := [("_law_k", 16)]) (g := (gName 16)) (tt := tYes) rfl sc_law.nd (pi_range1 (by rfl) T.f_range (pa_cons (pe_op op_add pe_int (C8.pe_c c_law_next hr (by decide) (by rfl) (pa_cons (pv 2) (pa_cons pe_int pa_nil)))) pa_nil)) (blkOk_by (own := [("_law_k", 16)]) (N := ["_law_script", "_law_cell", "_law_source", "_law_gaps", "_law_tail", "_law_rule", "_law_shift", "_law_starts", "_law_window", "_law_run", "_law_log", "_law_counts", "_law_slot", "_law_found", "_law_due", "_law_some", "_law_k", "_law_start", "_law_one_here"]) (sc := defScope s_law) (by decide +kernel)) (fun _ _ _ _ _ => (pg_name (i := 16) sc_law.nd rfl (by first | exact Or.inl rfl | exact Or.inr rfl))) (fun _ _ _ _ _ => pts_nil) (fun _ _ _ _ _ => (pe_op op_add (pv 6) (C8.pe_c c_law_next hr (by decide) (by rfl) (pa_cons (pv 2) (pa_cons pe_int pa_nil)))))))
      (pss_cons (ps_set (i := 8) sc_law.nd rfl (by first | exact Or.inl rfl | exact Or.inr rfl) (pe_tup (pa_cons (pe_callB (cr_min rfl) (by rfl) T.f_min (by decide +kernel) (pa_cons (pv 7) pa_nil)) (pa_cons (pe_op op_add (pe_op op_add (pe_callB (cr_max rfl) (by rfl) T.f_max (by decide +kernel) (pa_cons (pv 7) pa_nil)) pe_int) (C8.pe_c c_law_next hr (by decide) (by rfl) (pa_cons (pv 2) (pa_cons pe_int pa_nil)))) pa_nil))))
      (pss_cons (ps_set (i := 9) sc_law.nd rfl (by first | exact Or.inl rfl | exact Or.inr rfl) (C8.pe_mk c_Run hr (by decide) (by rfl) (pa_cons (pe_mkS (K := K) c_Scene hr (by decide) (by rfl) (pa_cons (pv 5) (pa_cons (pv 7) pa_nil)) (pk_cons (pe_lst (pa_cons (pv 8) pa_nil)) (pk_cons (pe_op op_add pe_int (C8.pe_c c_law_next hr (by decide) (by rfl) (pa_cons (pv 2) (pa_cons pe_int pa_nil)))) pk_nil))) pa_nil)))
      (pss_cons (ps_set (i := 10) sc_law.nd rfl (by first | exact Or.inl rfl | exact Or.inr rfl) (C8.pe_c c_expected_log hr (by decide) (by rfl) (pa_cons (pv 5) (pa_cons (pv 8) (pa_cons (pv 7) pa_nil)))))
      (pss_cons (ps_set (i := 11) sc_law.nd rfl (by first | exact Or.inl rfl | exact Or.inr rfl) (pe_callTy (call_dictP rfl) (by rfl) T.f_dict (by decide +kernel) (pa_cons (pv 10) pa_nil)))
      (pss_cons (ps_for PassesOwn.never rfl (pi_range2A (by rfl) T.f_range (pa_cons (pe_ix ix_tup (pv 8) pe_int (fun _ _ => rfl)) (pa_cons (pe_ix ix_tup (pv 8) pe_int (fun _ _ => rfl)) pa_nil))) (pg_name (i := 12) sc_law.nd rfl (by first | exact Or.inl rfl | exact Or.inr rfl)) (pss_cons (ps_set (i := 13) sc_law.nd rfl (by first | exact Or.inl rfl | exact Or.inr rfl) (pe_m c_U_attempting hr (by decide) (pv 9) (pa_cons (pv 12) pa_nil)))
      (pss_one (ps_if (PW.pt (pw_or (pt_cmpR op_ne (pe_dget2 hu (pv 11) (pv 12) pe_int ⟨rfl, rfl, rfl, rfl⟩) (pe_callB call_len_seq (by rfl) T.f_len (by decide +kernel) (pa_cons (pv 13) pa_nil)) (nomark _)) (pw_or1 (pt_cmpR (op_neD hu64) (pe_m c_U_event hr (by decide) (pv 9) (pa_cons (pv 12) pa_nil)) (pe_tup (pa_cons pe_str (pa_cons pe_int (pa_cons (pv 13) pa_nil)))) (nomark _))))) (pss_one (ps_ret pe_bl)) pss_nil))))
      (pss_cons (ps_set (i := 14) sc_law.nd rfl (by first | exact Or.inl rfl | exact Or.inr rfl) (pe_callB (cr_sortedSet rfl) (by rfl) T.f_sorted (by decide +kernel) (pa_cons (pe_callTy (cr_setI rfl) (by rfl) T.f_set (by decide +kernel) (pa_cons (pv 7) pa_nil)) pa_nil)))
      (pss_cons (ps_if (pt_cmpR (op_neD hu64) (C8.pe_c c_infer_starts hr (by decide) (by rfl) (pa_cons (pv 5) (pa_cons (pv 8) (pa_cons (pv 10) pa_nil)))) (pe_tup (pa_cons pe_str (pa_cons (pe_lc (own := [("_law_start", 17)]) (g := (gName 17)) (tt := tYes) rfl sc_law.nd (pi_list (pv 14)) (blkOk_by (own := [("_law_start", 17)]) (N := ["_law_script", "_law_cell", "_law_source", "_law_gaps", "_law_tail", "_law_rule", "_law_shift", "_law_starts", "_law_window", "_law_run", "_law_log", "_law_counts", "_law_slot", "_law_found", "_law_due", "_law_some", "_law_k", "_law_start", "_law_one_here"]) (sc := defScope s_law) (by decide +kernel)) (fun _ _ _ _ _ => (pg_name (i := 17) sc_law.nd rfl (by first | exact Or.inl rfl | exact Or.inr rfl))) (fun _ _ _ _ _ => pts_nil) (fun _ _ _ _ _ => (pe_tup (pa_cons (pv 17) (pa_cons (pe_bmK (K := K) rfl PySem.F.plainAttrs_list PySem.F.slot_list_count PySem.F.type_list_count (mt_lcountK (K := K) rfl) (pv 7) (pa_cons (pv 17) pa_nil)) pa_nil))))) pa_nil))) (nomark _)) (pss_one (ps_ret pe_bl)) pss_nil)
      (pss_cons (ps_set (i := 15) sc_law.nd rfl (by first | exact Or.inl rfl | exact Or.inr rfl) (pe_slice sl_list (pv 7) po_none (po_some (C8.pe_c c_law_next hr (by decide) (by rfl) (pa_cons (pv 2) (pa_cons (pe_op op_add (pe_callB call_len_seq (by rfl) T.f_len (by decide +kernel) (pa_cons (pv 7) pa_nil)) pe_int) pa_nil))))))
      (pss_cons (ps_if (pt_cmpR (op_neD hu64) (C8.pe_c c_remaining_log hr (by decide) (by rfl) (pa_cons (pv 5) (pa_cons (pv 8) (pa_cons (pv 10) (pa_cons (pv 15) pa_nil))))) (pe_tup (pa_cons pe_str (pa_cons (C8.pe_c c_expected_log hr (by decide) (by rfl) (pa_cons (pv 5) (pa_cons (pv 8) (pa_cons (pe_slice sl_list (pv 7) (po_some (pe_callB call_len_seq (by rfl) T.f_len (by decide +kernel) (pa_cons (pv 15) pa_nil))) po_none) pa_nil)))) pa_nil))) (nomark _)) (pss_one (ps_ret pe_bl)) pss_nil)
      (pss_one (ps_if (pt_cmpR (op_neD hu64) (pe_lc (own := [("_law_one_here", 18)]) (g := (gName 18)) rfl sc_law.nd (pi_list (pe_m0 c_U_outcomes hr (by decide) (pv 9))) (blkOk_by (own := [("_law_one_here", 18)]) (N := ["_law_script", "_law_cell", "_law_source", "_law_gaps", "_law_tail", "_law_rule", "_law_shift", "_law_starts", "_law_window", "_law_run", "_law_log", "_law_counts", "_law_slot", "_law_found", "_law_due", "_law_some", "_law_k", "_law_start", "_law_one_here"]) (sc := defScope s_law) (by decide +kernel)) (fun _ _ _ _ _ => (pg_name (i := 18) sc_law.nd rfl (by first | exact Or.inl rfl | exact Or.inr rfl))) (fun _ _ _ _ _ => (pts_one (PW.pt (pw_and (pt_cmpR op_eq (pe_ix (ix_tupK (K := K) rfl) (pv 18) pe_int (fun _ _ => rfl)) pe_str (nomark _)) (pw_and1 (pt_cmpR op_lt (pe_ix (ix_tupK (K := K) rfl) (pv 18) pe_int (fun _ _ => rfl)) (pe_ix (ix_tupK (K := K) rfl) (pv 8) pe_int (fun _ _ => rfl)) (nomark _))))))) (fun _ _ _ _ _ => (pv 18))) (pe_lst pa_nil) (nomark _)) (pss_one (ps_ret pe_bl)) pss_nil))))))))))))))))))
      (pss_one (ps_ret pe_bl)))), ?_⟩
    refine ⟨_, rfl, a, ns, 0, rfl, hS, fun z => ?_⟩
    refine ⟨by show 1 ≤ sizeLine; decide, fun l1 hl1 => ?_⟩
    have s1 : Same H (upd H l1 (.lst [.int z])) := same_new hl1
    refine ⟨_, rfl, _, rfl, _, rfl, a, _, rfl, s1.seq hS, fun l2 hl2 => ?_⟩
    obtain ⟨ys, hys, hyl⟩ := cut_ints ns (some 1) (some 4)
    have s2 := s1.trans (same_new (o := .lst (cutV (ns.map V.int) (some 1) (some 4))) hl2)
    refine ⟨l1, l2, _, _, rfl, rfl, (same_new hl2) _ _ upd_same, upd_same, szL (by rw [hys, List.length_map]; show 1 + ys.length ≤ 100000; omega), fun l hl => ?_⟩
    have hcells : [V.int z] ++ cutV (ns.map V.int) (some 1) (some 4) = (z :: ys).map V.int := by rw [hys]; rfl
    rw [hcells]
    have s3 := s2.trans (same_new (o := .lst ((z :: ys).map V.int)) hl)
    refine ⟨l, rfl, ⟨_, SqL.of upd_same⟩, ?_⟩
    have hlst : (upd (upd (upd H l1 (.lst [.int z])) l2 (.lst (cutV (ns.map V.int) (some 1) (some 4)))) l (.lst ((z :: ys).map V.int))) l = some (.lst ((z :: ys).map V.int)) := upd_same
    generalize upd (upd (upd H l1 (.lst [.int z])) l2 (.lst (cutV (ns.map V.int) (some 1) (some 4)))) l (.lst ((z :: ys).map V.int)) = H1 at hlst s3
    refine for_list (K := K) (a := l) (xs := (z :: ys).map V.int) (fun i σ' H' => ∃ v1 v2 v3 v4 v5 v6 v7 v8 v9 v10 v11 v12 v13 v14 v15 v16 v17 v18 : Option V, σ' = [some (.ref a), v1, v2, v3, v4, v5, v6, v7, v8, v9, v10, v11, v12, v13, v14, v15, v16, v17, v18] ∧ Same H1 H') ?_ ?_ ?_ ?_
    · exact ⟨none, none, none, none, none, none, none, none, none, none, none, none, none, none, none, none, none, none, rfl, Same.refl _⟩
    · rintro i σ' H' _ ⟨_, _, _, _, _, _, _, _, _, _, _, _, _, _, _, _, _, _, _, s4⟩
      exact SqL.of (s4 _ _ hlst)
    rotate_left
    · rintro σ' H' ⟨_, _, _, _, _, _, _, _, _, _, _, _, _, _, _, _, _, _, rfl, s4⟩
      exact k H'
    rintro i x σ' H' hx ⟨v1, v2, v3, v4, v5, v6, v7, v8, v9, v10, v11, v12, v13, v14, v15, v16, v17, v18, rfl, s4⟩
    rw [List.getElem?_map] at hx
    obtain ⟨c, hc, rfl⟩ := Option.map_eq_some_iff.mp hx
    -- (1) the source
    refine ⟨_, rfl, c, rfl, fun s H2 s5 hs0 src2 => ?_⟩
    have B2 : Same H1 (mi H2 s) := fun b o hb => by
      have h1 := s4 _ _ hb
      rw [mi_ne (ne_of_none h1 hs0)]
      exact s5 _ _ h1
    -- (2) the gaps
    refine ⟨_, rfl, s, 4, 0, rfl, src2, by decide, by decide, by decide, fun H3 r kp3 src3 hr0 hr1 => ?_⟩
    have B3 := B2.trans (mi_keep kp3)
    refine ⟨_, _, rfl, rfl, 1 + r, rfl, by omega, by omega, fun D hD => ?_⟩
    refine lc_it (walk_range (lo := 0) (n := (1 + r).toNat)) (fun i H' => ∃ gs : List Int, H' D = some (.lst (gs.map V.int)) ∧ gs.length = i ∧ (∀ x ∈ gs, 1 ≤ x ∧ x ≤ 30) ∧ SrcAt H' s (1 + 2 * i) ∧ Same (mi H3 s) H') ?_ ?_ ?_ ?_
    · exact ⟨[], upd_same, rfl, fun x hx => absurd hx List.not_mem_nil, src3.new hD, (mi_same _ _).trans (same_new hD)⟩
    · exact fun _ _ _ _ => trivial
    · rintro i x H4 H5 hi ⟨gs, g1, g2, g3, g4, g5⟩ ⟨rfl, rfl⟩
      have nD := src3.ne hD
      refine ⟨rfl, ?_⟩
      refine yes_k ?_
      refine ⟨_, rfl, _, rfl, by show 2 ≤ sizeLine; decide, fun lo hlo => ?_⟩
      refine ⟨s, lo, _, 1 + 2 * i, rfl, g4.new hlo, by omega, upd_same, g4.ne hlo, by decide, by decide, fun H6 v kp6 src6 hv => ?_⟩
      obtain ⟨m, rfl, hm⟩ : ∃ m : Int, v = .int m ∧ (m = 4 ∨ m = 30) := by
        simp only [List.mem_cons, List.not_mem_nil, or_false] at hv
        rcases hv with hv | hv
        · exact ⟨4, hv, .inl rfl⟩
        · exact ⟨30, hv, .inr rfl⟩
      refine ⟨s, m, _, rfl, src6, by omega, by omega, by omega, fun H7 r2 kp7 src7 h0 h1 => ?_⟩
      have k47 : Keep H5 s H7 := ((Keep.of (same_new hlo)).trans kp6).trans kp7
      refine ⟨_, _, rfl, rfl, gs.map V.int, k47 _ _ g1 nD, szLt (by rw [List.length_map]; omega), gs ++ [1 + r2], by rw [upd_same, List.map_append]; rfl, by rw [List.length_append, g2]; rfl, fun x hx => ?_, ?_, ?_⟩
      · rcases List.mem_append.mp hx with hx | hx
        · exact g3 x hx
        · rw [List.mem_singleton] at hx
          omega
      · have : SrcAt H7 s (1 + 2 * (i + 1)) := src7.le (by omega)
        obtain ⟨x1, m1, k1, e1, e2⟩ := this
        exact ⟨x1, m1, k1, by rw [upd_ne nD.symm]; exact e1, e2⟩
      · intro b o hb
        have h2 := g5 _ _ hb
        have hbs := (mi_to hb).1
        have hbD : b ≠ D := ne_of_none (mi_to hb).2 hD
        rw [upd_ne hbD]
        exact k47 _ _ h2 hbs
    rintro H4 ⟨gs, g1, g2, g3, g4, g5⟩
    have nD := src3.ne hD
    have B4 : Same H1 (mi H4 s) := fun b o hb => by
      have h1 := B3 _ _ hb
      rw [mi_ne (mi_to h1).1]
      exact g5 _ _ h1
    have D4 : mi H4 s D = some (.lst (gs.map V.int)) := by rw [mi_ne nD]; exact g1
    have hgl : 1 ≤ gs.length ∧ gs.length ≤ 4 := by omega
    have src4 : SrcAt H4 s 20 := g4.le (by omega)
    -- (3) the tail
    refine ⟨_, rfl, by show 1 ≤ sizeLine; decide, fun t1 ht1 => ?_⟩
    have src5 := src4.new (o := .tup [.str "end"]) ht1
    have a51 := mi_at (o := .tup [.str "end"]) src4 ht1
    have B5 := B4.trans (mi_mono (same_new (o := .tup [.str "end"]) ht1))
    have D5 := (mi_mono (same_new (o := .tup [.str "end"]) ht1)) _ _ D4
    generalize upd H4 t1 (.tup [.str "end"]) = H5 at src5 a51 B5 D5
    refine ⟨by show 2 ≤ sizeLine; decide, fun t2 ht2 => ?_⟩
    have m6 : Same (mi H5 s) (mi (upd H5 t2 (.tup [.str "times", .int 2])) s) := mi_mono (same_new ht2)
    have src6 := src5.new (o := .tup [.str "times", .int 2]) ht2
    have a62 := mi_at (o := .tup [.str "times", .int 2]) src5 ht2
    generalize upd H5 t2 (.tup [.str "times", .int 2]) = H6 at src6 a62 m6
    refine ⟨by show 2 ≤ sizeLine; decide, fun t3 ht3 => ?_⟩
    have m7 : Same (mi H6 s) (mi (upd H6 t3 (.tup [.str "times", .int 3])) s) := mi_mono (same_new ht3)
    have src7 := src6.new (o := .tup [.str "times", .int 3]) ht3
    have a73 := mi_at (o := .tup [.str "times", .int 3]) src6 ht3
    generalize upd H6 t3 (.tup [.str "times", .int 3]) = H7 at src7 a73 m7
    have D7 := m7 _ _ (m6 _ _ D5)
    refine ⟨_, rfl, _, rfl, D, _, rfl, .inl (SqL.of (mi_to D7).2), s, _, 20, rfl, src7, by decide, by rw [List.length_map]; omega, by rw [List.length_map]; omega, fun H8 rt kp8 src8 hrt0 hrt1 => ?_⟩
    rw [List.length_map] at hrt1
    have m8 := mi_keep kp8
    refine ⟨_, _, rfl, rfl, by show 2 ≤ sizeLine; decide, fun t4 ht4 => ?_⟩
    have m9 : Same (mi H8 s) (mi (upd H8 t4 (.tup [.str "repeat", .int (1 + rt)])) s) := mi_mono (same_new ht4)
    have src9 := src8.new (o := .tup [.str "repeat", .int (1 + rt)]) ht4
    have a94 := mi_at (o := .tup [.str "repeat", .int (1 + rt)]) src8 ht4
    generalize upd H8 t4 (.tup [.str "repeat", .int (1 + rt)]) = H9 at src9 a94 m9
    refine ⟨by show 4 ≤ sizeLine; decide, fun lo hlo => ?_⟩
    have m10 : Same (mi H9 s) (mi (upd H9 lo (.lst [.ref t1, .ref t2, .ref t3, .ref t4])) s) := mi_mono (same_new hlo)
    refine ⟨s, lo, _, 21, rfl, src9.new hlo, by decide, upd_same, src9.ne hlo, by show 0 < 4; decide, by show 4 ≤ 1000; decide, fun H11 v kp11 src11 hv => ?_⟩
    have m11 := m10.trans (mi_keep kp11)
    have htl : ∃ (tt : Addr) (tl : Tl), v = .ref tt ∧ mi H11 s tt = some (.tup tl.vs) ∧ (∀ b, tl = .tim b → b = 2 ∨ b = 3) ∧ ∀ m, tl = .rep m → 1 ≤ m ∧ m ≤ gs.length := by
      simp only [List.mem_cons, List.not_mem_nil, or_false] at hv
      rcases hv with hv | hv | hv | hv
      · exact ⟨t1, .fin, hv, m11 _ _ (m9 _ _ (m8 _ _ (m7 _ _ (m6 _ _ a51)))), (fun b e => by cases e), (fun m e => by cases e)⟩
      · exact ⟨t2, .tim 2, hv, m11 _ _ (m9 _ _ (m8 _ _ (m7 _ _ a62))), (fun b e => by cases e; exact .inl rfl), (fun m e => by cases e)⟩
      · exact ⟨t3, .tim 3, hv, m11 _ _ (m9 _ _ (m8 _ _ a73)), (fun b e => by cases e; exact .inr rfl), (fun m e => by cases e)⟩
      · refine ⟨t4, .rep (1 + rt).toNat, hv, ?_, (fun b e => by cases e), (fun m e => by cases e; omega)⟩
        have e1 : (Tl.rep (1 + rt).toNat).vs = [.str "repeat", .int (1 + rt)] := by
          show [V.str "repeat", V.int ((1 + rt).toNat : Int)] = _
          rw [Int.toNat_of_nonneg (by omega)]
        rw [e1]
        exact m11 _ _ a94
    obtain ⟨tt, tl, rfl, htt, htb, htm⟩ := htl
    have D11 := m11 _ _ (m9 _ _ (m8 _ _ D7))
    have B11 := B5.trans (m6.trans (m7.trans (m8.trans (m9.trans m11))))
    have rok : (⟨gs, tl⟩ : Ru).Ok := ⟨hgl.1, hgl.2, g3, htb, htm⟩
    generalize hRR : (⟨gs, tl⟩ : Ru) = R at rok
    have eg : gs = R.g := by rw [← hRR]
    have et : tl = R.t := by rw [← hRR]
    rw [eg] at D11
    rw [et] at htt
    -- (4) the rule
    obtain ⟨sx, sm, sk, hs11, hsc⟩ := src11
    refine ⟨s, _, hs11, trivial, fun od => ?_⟩
    have fz : (upd H11 s (.frz od (.lst [.int sx, .int sm, .int sk]))) s = some (.frz od (.lst [.int sx, .int sm, .int sk])) := upd_same
    have mf : Same (mi H11 s) (upd H11 s (.frz od (.lst [.int sx, .int sm, .int sk]))) := fun b o hb => by
      rw [upd_ne (mi_to hb).1]
      exact (mi_to hb).2
    generalize upd H11 s (.frz od (.lst [.int sx, .int sm, .int sk])) = Hf at fz mf
    refine ⟨_, rfl, _, rfl, fun p dx hp hdx nde => ?_⟩
    have nk : ∀ b o, Hf b = some o → (upd (upd Hf dx (.own p)) p (.ins (cR K) dx [])) b = some o ∧ b ≠ p := fun b o hb => by
      have h1 := ne_of_none hb hp
      exact ⟨by rw [upd_ne h1, upd_ne (ne_of_none hb hdx)]; exact hb, h1⟩
    refine ⟨p, dx, D, tt, R, rfl, upd_same, (nk _ _ (mf _ _ D11)).1, (nk _ _ (mf _ _ htt)).1, rok, fun H12 kp12 hR12 => ⟨rfl, ?_⟩⟩
    have keep12 : Same Hf H12 := fun b o hb => kp12 b o (nk b o hb).1 (nk b o hb).2
    have fz12 := keep12 _ _ fz
    refine ⟨fz12, ?_⟩
    have hR13 := hR12.away fz12
    have src13 : SrcAt (upd H12 s (.lst [.int sx, .int sm, .int sk])) s 22 := ⟨sx, sm, sk, upd_same, hsc⟩
    have B13 : Same H1 (mi (upd H12 s (.lst [.int sx, .int sm, .int sk])) s) := fun b o hb => by
      have h1 := B11 _ _ hb
      rw [mi_upd, mi_ne (mi_to h1).1]
      exact keep12 _ _ (mf _ _ h1)
    rw [← mi_upd H12 s (.lst [.int sx, .int sm, .int sk])] at hR13
    generalize upd H12 s (.lst [.int sx, .int sm, .int sk]) = H13 at src13 B13 hR13
    clear hR12 kp12 nk keep12 fz12 mf
    -- (5) the shift
    refine ⟨_, rfl, _, _, rfl, rfl, ⟨by decide, by decide, by decide⟩, _, _, rfl, rfl, _, rfl, _, _, rfl, rfl, ⟨by decide, by decide, by decide⟩, s, _, 22, rfl, src13, by decide, by decide, by decide, fun H14 rs kp14 src14 hrs0 hrs1 => ?_⟩
    have m14 := mi_keep kp14
    refine ⟨by show 3 ≤ sizeLine; decide, fun lo2 hlo2 => ?_⟩
    refine ⟨s, lo2, _, 23, rfl, src14.new hlo2, by decide, upd_same, src14.ne hlo2, by show 0 < 3; decide, by show 3 ≤ 1000; decide, fun H15 v kp15 src15 hv => ?_⟩
    have m15 : Same (mi H13 s) (mi H15 s) := m14.trans ((mi_mono (same_new hlo2)).trans (mi_keep kp15))
    obtain ⟨sh, rfl⟩ : ∃ sh : Int, v = .int sh := by
      simp only [List.mem_cons, List.not_mem_nil, or_false] at hv
      rcases hv with hv | hv | hv
      · exact ⟨_, hv⟩
      · exact ⟨_, hv⟩
      · exact ⟨_, hv⟩
    have hR15 := hR13.mono m15
    have B15 := B13.trans m15
    -- (6) the starts
    refine ⟨_, rfl, s, 6, 24, rfl, src15, by decide, by decide, by decide, fun H16 r6 kp16 src16 hr60 hr61 => ?_⟩
    refine ⟨_, _, rfl, rfl, 1 + r6, rfl, by omega, by omega, fun L hL => ?_⟩
    refine lc_it (walk_range (lo := 0) (n := (1 + r6).toNat)) (fun i H' => ∃ ss : List Int, H' L = some (.lst (ss.map V.int)) ∧ ss.length = i ∧ (∀ x ∈ ss, sh ≤ x ∧ x ≤ sh + 19) ∧ SrcAt H' s (25 + i) ∧ Same (mi H16 s) H') ?_ ?_ ?_ ?_
    · exact ⟨[], upd_same, rfl, fun x hx => absurd hx List.not_mem_nil, src16.new hL, (mi_same _ _).trans (same_new hL)⟩
    · exact fun _ _ _ _ => trivial
    · rintro i x H4 H5 hi ⟨ss, g1, g2, g3, g4, g5⟩ ⟨rfl, rfl⟩
      have nL := src16.ne hL
      refine ⟨rfl, ?_⟩
      refine yes_k ?_
      refine ⟨_, rfl, _, rfl, s, 20, _, rfl, g4, by omega, by decide, by decide, fun H7 r2 kp7 src7 h0 h1 => ?_⟩
      refine ⟨_, _, rfl, rfl, ss.map V.int, kp7 _ _ g1 nL, szLt (by rw [List.length_map]; omega), ss ++ [sh + r2], by rw [upd_same, List.map_append]; rfl, by rw [List.length_append, g2]; rfl, fun x hx => ?_, ?_, ?_⟩
      · rcases List.mem_append.mp hx with hx | hx
        · exact g3 x hx
        · rw [List.mem_singleton] at hx
          omega
      · have : SrcAt H7 s (25 + (i + 1)) := src7.le (by omega)
        obtain ⟨x1, m1, k1, e1, e2⟩ := this
        exact ⟨x1, m1, k1, by rw [upd_ne nL.symm]; exact e1, e2⟩
      · intro b o hb
        have h2 := g5 _ _ hb
        have hbs := (mi_to hb).1
        have hbL : b ≠ L := ne_of_none (mi_to hb).2 hL
        rw [upd_ne hbL]
        exact kp7 _ _ h2 hbs
    rintro H17 ⟨ss, e1, e2, hss, e4, e5⟩
    have nL := src16.ne hL
    have m17 : Same (mi H15 s) (mi H17 s) := fun b o hb => by
      have h1 := (mi_keep kp16) _ _ hb
      rw [mi_ne (mi_to h1).1]
      exact e5 _ _ h1
    have L17 : mi H17 s L = some (.lst (ss.map V.int)) := by rw [mi_ne nL]; exact e1
    have hsl : 1 ≤ ss.length ∧ ss.length ≤ 6 := by omega
    have src17 : SrcAt H17 s 31 := e4.le (by omega)
    have hR17 := hR15.mono m17
    have B17 := B15.trans m17
    -- (7) the window
    refine ⟨_, rfl, L, ss, rfl, SqL.of e1, by omega, fun mn hmn1 hmn2 => ?_⟩
    refine ⟨_, rfl, L, ss, rfl, SqL.of e1, by omega, fun mx hmx1 hmx2 => ?_⟩
    refine ⟨_, _, rfl, rfl, _, rfl, s, 40, 31, rfl, src17, by decide, by decide, by decide, fun H18 rwn kp18 src18 hw0 hw1 => ?_⟩
    refine ⟨_, _, rfl, rfl, by show 2 ≤ sizeLine; decide, fun q hq => ?_⟩
    refine ⟨_, rfl, _, rfl, ?_⟩
    refine ⟨_, rfl, by show 1 ≤ sizeLine; decide, fun wl hwl0 => ?_⟩
    have hwl : (upd H18 q (.tup [.int mn, .int (mx + 1 + rwn)])) wl = none := hwl0
    have m19 : Same (mi H17 s) (mi (upd H18 q (.tup [.int mn, .int (mx + 1 + rwn)])) s) := (mi_keep kp18).trans (mi_mono (same_new hq))
    have src19 := src18.new (o := .tup [.int mn, .int (mx + 1 + rwn)]) hq
    have q19 := mi_at (o := .tup [.int mn, .int (mx + 1 + rwn)]) src18 hq
    have hR19 := hR17.mono m19
    have L19 := m19 _ _ L17
    have B19 := B17.trans m19
    have m20 : Same (mi (upd H18 q (.tup [.int mn, .int (mx + 1 + rwn)])) s) (mi (upd (upd H18 q (.tup [.int mn, .int (mx + 1 + rwn)])) wl (.lst [.ref q])) s) := mi_mono (same_new hwl)
    have src20 := src19.new (o := .lst [.ref q]) hwl
    have w20 := mi_at (o := .lst [.ref q]) src19 hwl
    refine ⟨_, rfl, s, 4, 32, rfl, src20, by decide, by decide, by decide, fun H21 rl kp21o src21 hl0 hl1 => ?_⟩
    have kp21 : Keep (upd (upd H18 q (.tup [.int mn, .int (mx + 1 + rwn)])) wl (.lst [.ref q])) s H21 := kp21o
    clear kp21o hwl0
    have hmnx := hmx2 _ hmn1
    have hb1 := hss _ hmn1
    have hb2 := hss _ hmx1
    -- (8) the scene, the run
    generalize upd (upd H18 q (.tup [.int mn, .int (mx + 1 + rwn)])) wl (.lst [.ref q]) = H20 at m20 src20 w20 kp21
    generalize upd H18 q (.tup [.int mn, .int (mx + 1 + rwn)]) = H19 at m19 src19 q19 hR19 L19 B19 m20 hwl
    generalize hoa : mn = oa at *
    generalize hob : mx + 1 + rwn = ob at *
    have m21 := m20.trans (mi_keep kp21)
    have w21 := (mi_keep kp21) _ _ w20
    have hR21 := hR19.mono m21
    have L21 := m21 _ _ L19
    have q21 := m21 _ _ q19
    have B21 := B19.trans m21
    refine ⟨_, _, rfl, rfl, rfl, rfl, fun sc dxs hsc hdxs nds => ?_⟩
    have Sok : Sc.Ok ⟨R, ss, oa, ob, 1 + rl⟩ := ⟨rok, hsl.1, hsl.2, fun x hx => by
      have h1 := hmn2 x hx
      have h2 := hmx2 x hx
      have h3 := hss x hx
      show oa ≤ x ∧ x ≤ oa + 19 ∧ x < ob
      omega, by show oa < ob ∧ ob ≤ oa + 60; omega, by show 1 ≤ 1 + rl ∧ 1 + rl ≤ 4; omega⟩
    generalize hSS : (⟨R, ss, oa, ob, 1 + rl⟩ : Sc) = S at Sok
    have eR : S.R = R := by rw [← hSS]
    have ess : S.ss = ss := by rw [← hSS]
    have eoa : S.oa = oa := by rw [← hSS]
    have eob : S.ob = ob := by rw [← hSS]
    have elen : S.len = 1 + rl := by rw [← hSS]
    rw [← eR] at hR21
    rw [← ess] at L21
    rw [← eoa, ← eob] at q21
    obtain ⟨sx1, sm1, sk1, hs21, hsc21⟩ := src21
    obtain ⟨ml1, ml2, ml3⟩ := make_lock (C := cS K) hsc hdxs hs21
    refine ⟨rfl, s, _, ml1, fun od1 => ?_⟩
    refine ⟨sc, dxs, p, L, wl, q, S, by rw [elen]; rfl, ml2 od1, hR21.mono fun b o hb => (ml3 od1 b o hb).1, (ml3 od1 _ _ L21).1, Sok.n1, by have := Sok.n6; omega, (ml3 od1 _ _ w21).1, (ml3 od1 _ _ q21).1, Sok.w60.1, Sok.l4.1, fun H22 kp22 hS22 => ?_⟩
    have fz22 : H22 s = some (.frz od1 (.lst [.int sx1, .int sm1, .int sk1])) := kp22 _ _ upd_same (ne_of_none hs21 hsc)
    refine ⟨fz22, rfl, ?_⟩
    have m22 : Same (mi H21 s) (mi (upd H22 s (.lst [.int sx1, .int sm1, .int sk1])) s) := fun b o hb => by
      rw [mi_upd, mi_ne (mi_to hb).1]
      exact kp22 _ _ (ml3 od1 b o hb).1 (ml3 od1 b o hb).2
    have hS23 := hS22.away fz22
    rw [← mi_upd H22 s (.lst [.int sx1, .int sm1, .int sk1])] at hS23
    have hs23 : (upd H22 s (.lst [.int sx1, .int sm1, .int sk1])) s = some (.lst [.int sx1, .int sm1, .int sk1]) := upd_same
    generalize upd H22 s (.lst [.int sx1, .int sm1, .int sk1]) = H23 at m22 hS23 hs23
    clear hS22 kp22 ml1 ml2 ml3 fz22
    refine fun u dxu huu hdxu ndu => ?_
    obtain ⟨ml1, ml2, ml3⟩ := make_lock (C := cU K) huu hdxu hs23
    refine ⟨rfl, s, _, ml1, fun od2 => ?_⟩
    refine ⟨u, dxu, sc, p, S, rfl, ml2 od2, hS23.mono fun b o hb => (ml3 od2 b o hb).1, Sok, fun H24 kp24 hF24 => ?_⟩
    have fz24 : H24 s = some (.frz od2 (.lst [.int sx1, .int sm1, .int sk1])) := kp24 _ _ upd_same (ne_of_none hs23 huu)
    refine ⟨fz24, rfl, ?_⟩
    have m24 : Same (mi H23 s) (mi (upd H24 s (.lst [.int sx1, .int sm1, .int sk1])) s) := fun b o hb => by
      rw [mi_upd, mi_ne (mi_to hb).1]
      exact kp24 _ _ (ml3 od2 b o hb).1 (ml3 od2 b o hb).2
    have hF25 := hF24.away fz24
    rw [← mi_upd H24 s (.lst [.int sx1, .int sm1, .int sk1])] at hF25
    have src25 : SrcAt (upd H24 s (.lst [.int sx1, .int sm1, .int sk1])) s 33 := ⟨sx1, sm1, sk1, upd_same, hsc21⟩
    generalize upd H24 s (.lst [.int sx1, .int sm1, .int sk1]) = H25 at m24 hF25 src25
    clear hF24 kp24 ml1 ml2 ml3 fz24
    have m25 := m22.trans m24
    have hR25 := hR21.mono m25
    have L25 := m25 _ _ L21
    have q25 := m25 _ _ q21
    have B25 := B21.trans m25
    have n6 := Sok.n6
    have hlim : ∀ t : Int, t ≤ S.ob → ∀ b, S.R.t = .tim b → ∀ c, c < S.ss.length → t - S.at c ≤ 2 ^ 40 := fun t ht b _ c hc => by
      have h1 := Sok.at_ hc
      have h2 := Sok.w60
      omega
    have hw60 := Sok.w60
    have hlimx : ∀ x ∈ S.ss, S.ob - x ≤ 2 ^ 40 := fun x hx => by
      have h1 := Sok.st x hx
      omega
    -- (9) the log
    refine ⟨_, rfl, _, rfl, _, rfl, p, q, L, S.R, S.oa, S.ob, S.ss, rfl, hR25.mono (mi_same _ _), (mi_to q25).2, (mi_to L25).2, by omega, by omega, by omega, fun _ _ x hx => hlimx x hx, fun d ps H26 s26 hps26 hlog => ?_⟩
    have m26 := mi_mono (a := s) s26
    have src26 := src25.mono s26
    have hps27 := hps26.away src26
    have hR26 := hR25.mono m26
    have L26 := m26 _ _ L25
    have q26 := m26 _ _ q25
    have hF26 := hF25.mono m26
    have B26 := B25.trans m26
    -- (10) the counts
    obtain ⟨ts, hd26, hts26⟩ := hps26
    refine ⟨_, rfl, d, ts, ps.map kv2, rfl, SqL.of hd26, ?_, fun cc hcc => ?_⟩
    · have := pq_map (F := fun (t : Addr) (kv : Key × V) => SqT K H26 t [kV kv.1, kv.2]) id kv2 (L2.Paired.mapP hts26 fun _ _ h => SqT.of h)
      rwa [List.map_id] at this
    rw [hlog.merge]
    have m27 : Same (mi H26 s) (mi (upd H26 cc (.dK (ps.map kv2))) s) := mi_mono (same_new hcc)
    have src27 := src26.new (o := .dK (ps.map kv2)) hcc
    have cc27 := mi_at (o := .dK (ps.map kv2)) src26 hcc
    generalize upd H26 cc (.dK (ps.map kv2)) = H27 at m27 src27 cc27
    have hR27 := hR26.mono m27
    have L27 := m27 _ _ L26
    have q27 := m27 _ _ q26
    have hF27 := hF26.mono m27
    have B27 := B26.trans m27
    have hps28 := hps27.mono m27
    -- (11) the slots of the window
    refine ⟨_, rfl, q, _, _, _, rfl, rfl, SqT.of (mi_to q27).2, rfl, _, rfl, q, _, _, _, rfl, rfl, SqT.of (mi_to q27).2, rfl, S.oa, S.ob, rfl, ?_⟩
    refine for_it (walk_range (lo := S.oa) (n := (S.ob - S.oa).toNat)) (fun i σ' H' => ∃ w12 w13 : Option V, σ' = [some (.ref a), some (.int c), some (.ref s), some (.ref D), some (.ref tt), some (.ref p), some (.int sh), some (.ref L), some (.ref q), some (.ref u), some (.ref d), some (.ref cc), w12, w13, v14, v15, v16, v17, v18] ∧ Same H27 H') ?_ ?_ ?_ ?_
    · exact ⟨v12, v13, rfl, Same.refl _⟩
    · exact fun _ _ _ _ _ => trivial
    · rintro i x σ' H28 H29 hi ⟨w12, w13, rfl, s28⟩ ⟨rfl, rfl⟩
      have mm := (mi_same H27 s).trans s28
      have hF28 := hF27.mono mm
      have hcc28 := mm _ _ cc27
      have ht1 : S.oa ≤ S.oa + (i : Int) := by omega
      have ht2 : S.oa + (i : Int) < S.ob := by omega
      have hout : S.out (S.oa + (i : Int)) = true := decide_eq_true ⟨ht1, ht2⟩
      refine ⟨_, rfl, hF28.md mU_attempting, _, rfl, u, sc, p, S, S.oa + (i : Int), rfl, hF28, n6, ht2, hlim _ (by omega), fun l2 H30 s30 hl2 => ?_⟩
      have hcc30 := s30 _ _ hcc28
      have hval : ((valV (ps.map kv2) (.inl (S.oa + (i : Int)))).getD (V.int 0)) = V.int (((S.att (S.oa + (i : Int))).map fun c : Nat => V.int (c : Int)).length : Nat) := by
        rw [hlog.tab.get, List.length_map, ← cnt_att]
        have := posO_get (win S.oa S.ob (cnt S.R S.ss) (S.oa + (i : Int)))
        rw [this]
        unfold win
        rw [if_pos ⟨ht1, ht2⟩]
      refine ⟨_, rfl, cc, rfl, .inl ⟨_, .inl hcc30⟩, _, rfl, _, DGet.k (k := .inl (S.oa + (i : Int))) hcc30, _, rfl, l2, _, rfl, .inl (SqL.of hl2), by rw [hval]; rfl, false, ?_, ?_⟩
      · rw [hval]
        exact congrArg (fun z => V.bl (!z)) (decide_eq_true rfl)
      refine iteF ?_
      have hF30 := hF28.mono s30
      refine ⟨_, rfl, hF30.md mU_event, _, rfl, u, sc, p, S, S.oa + (i : Int), rfl, hF30, n6, hout, hlim _ (by omega), fun e l3 H31 s31 he hl3 => ?_⟩
      refine ⟨_, rfl, by show 3 ≤ sizeLine; decide, fun e2 he2 => ?_⟩
      have s32 : Same H31 (upd H31 e2 (.tup [.str "outage", .int 0, .ref l2])) := same_new he2
      refine neD_same (evD_lay _) (evD_depth _) (dp_ev (s32 _ _ he) (s32 _ _ hl3)) (dp_ev upd_same (s32 _ _ (s31 _ _ hl2))) ?_
      refine ⟨false, rfl, ?_⟩
      refine iteF ?_
      exact ⟨_, _, rfl, ((s28.trans s30).trans s31).trans s32⟩
    rintro σ' H32 ⟨w12, w13, rfl, s32⟩
    have m32 := mi_mono (a := s) s32
    have src32 := src27.mono s32
    have hR32 := hR27.mono m32
    have L32 := m32 _ _ L27
    have q32 := m32 _ _ q27
    have hF32 := hF27.mono m32
    have B32 := B27.trans m32
    have hps32 := hps28.mono m32
    -- (12) the starts, each once
    refine ⟨_, rfl, L, S.ss, rfl, SqL.of (mi_to L32).2, by omega, fun se n hse hn => ?_⟩
    refine ⟨se, _, n, rfl, upd_same, by omega, fun du pd hasc hmem hdl hpd => ?_⟩
    have m33 : Same (mi H32 s) (mi (upd (upd H32 se (SetO w se (fun j => decide (j ∈ S.ss)) n)) pd (.lst (du.map V.int))) s) := (mi_mono (same_new hse)).trans (mi_mono (same_new hpd))
    have src33 := (src32.new (o := SetO w se (fun j => decide (j ∈ S.ss)) n) hse).new (o := .lst (du.map V.int)) hpd
    have d33 := mi_at (o := .lst (du.map V.int)) (src32.new (o := SetO w se (fun j => decide (j ∈ S.ss)) n) hse) hpd
    have hR33 := hR32.mono m33
    have L33 := m33 _ _ L32
    have q33 := m33 _ _ q32
    have hF33 := hF32.mono m33
    have B33 := B32.trans m33
    have hps33 := hps32.mono m33
    have hdul : du.length ≤ 6 := by omega
    -- (13) infer_starts
    refine ⟨_, rfl, _, rfl, _, rfl, p, q, d, S.R, S.oa, S.ob, S.ss, ps, rfl, hR33.mono (mi_same _ _), (mi_to q33).2, hps33.mono (mi_same _ _), hlog, by omega, by omega, fun x hx => by have := Sok.st x hx; omega, fun _ _ x hx => hlimx x hx, fun t3 d3 F3 H34 s34o ht34 hd34 hdue => ?_⟩
    have s34 : Same (upd (upd H32 se (SetO w se (fun j => decide (j ∈ S.ss)) n)) pd (.lst (du.map V.int))) H34 := s34o
    clear s34o
    generalize upd (upd H32 se (SetO w se (fun j => decide (j ∈ S.ss)) n)) pd (.lst (du.map V.int)) = H33 at m33 src33 d33 hR33 L33 q33 hF33 B33 hps33 s34
    have L34 := s34 _ _ (mi_to L33).2
    have d34 := s34 _ _ (mi_to d33).2
    have hdm : (du.map V.int).length = du.length := List.length_map ..
    refine ⟨_, rfl, pd, rfl, ⟨_, SqL.of d34⟩, fun E1 hE1 => lc_pure (walk_list (K := K) (a := pd) (xs := du.map V.int)) (fun _ => true) (fun i y H => ∃ t, y = .ref t ∧ H t = some (.tup [.int (du.getD i 0), .int (S.ss.count (du.getD i 0) : Nat)])) (fun i y H H' e ⟨t, h1, h2⟩ => ⟨t, h1, e _ _ (fun xs z => by cases z) h2⟩) hE1 (by omega) (fun H2 e => e.seq (SqL.of d34)) ?_ ?_⟩
    · rintro i x H35 H36 Ky Kn hi s35 ⟨rfl, hx⟩ hy _
      rw [List.getElem?_map] at hx
      obtain ⟨y, hy1, rfl⟩ := Option.map_eq_some_iff.mp hx
      rw [getD_of hy1] at hy
      have L35 := s35 _ _ L34
      refine ⟨rfl, yes_te ?_⟩
      refine ⟨_, rfl, _, rfl, .inl ⟨rfl, _, SqL.of L35⟩, _, rfl, L, S.ss, y, rfl, rfl, SqL.of L35, by show 2 ≤ sizeLine; decide, fun tp htp => hy rfl _ _ ⟨tp, rfl, upd_same⟩ (same_new htp)⟩
    intro H35 acc s35 hE2 hm35
    have hmade := Made.pairs (f := fun i => (du.getD i 0, ((S.ss.count (du.getD i 0) : Nat) : Int))) hm35
    have hrng : (((List.range (du.map V.int).length).filter fun _ => true).map fun i => (du.getD i 0, ((S.ss.count (du.getD i 0) : Nat) : Int))) = du.map fun y => (y, ((S.ss.count y : Nat) : Int)) := by
      rw [hdm]
      have := keep_map (0 : Int) (fun _ => true) (fun y => (y, ((S.ss.count y : Nat) : Int))) du
      rw [List.filter_eq_self.mpr (fun _ _ => rfl)] at this ⊢
      rw [List.filter_eq_self.mpr (fun _ _ => rfl)] at this
      exact this
    rw [hrng] at hmade
    have hFeq : F3 = du.map fun y => (y, ((S.ss.count y : Nat) : Int)) := by
      refine asc_eq hdue.asc ?_ fun z => ?_
      · rw [List.pairwise_map]
        exact hasc
      · rw [hdue.mem z, List.mem_map]
        constructor
        · rintro ⟨h1, h2⟩
          exact ⟨z.1, (hmem z.1).mpr (decide_eq_true h1), Prod.ext rfl h2.symm⟩
        · rintro ⟨y, hy, rfl⟩
          exact ⟨of_decide_eq_true ((hmem y).mp hy), rfl⟩
    rw [← hFeq] at hmade
    obtain ⟨ts4, rfl, hts4⟩ := hmade
    refine ⟨by show 2 ≤ sizeLine; decide, fun t5 ht5 => ?_⟩
    have s36 := same_new (o := .tup [.str "starts", .ref E1]) ht5
    refine neD_same (logD_lay (by decide +kernel) F3) (logD_depth _ _) (dp_log (s36 _ _ (s35 _ _ ht34)) (hd34.mono (s35.trans s36))) (dp_log upd_same (PairsAt.mono s36 ⟨ts4, hE2, hts4⟩)) ?_
    refine ⟨false, rfl, ?_⟩
    refine iteF ?_
    have s3336 := (s34.trans s35).trans s36
    generalize upd H35 t5 (.tup [.str "starts", .ref E1]) = H36 at s3336
    clear s36 s35 s34 hts4 hE2 hm35 ht5 hE1 hrng
    have m36 := mi_mono (a := s) s3336
    have src36 := src33.mono s3336
    have hR36 := hR33.mono m36
    have L36 := m36 _ _ L33
    have q36 := m36 _ _ q33
    have hF36 := hF33.mono m36
    have B36 := B33.trans m36
    have hps36 := hps33.mono m36
    -- (14) some of the starts
    have hLl : (S.ss.map V.int).length = S.ss.length := List.length_map ..
    refine ⟨_, rfl, _, rfl, _, rfl, L, _, rfl, .inl (SqL.of (mi_to L36).2), _, _, rfl, rfl, s, _, 33, rfl, src36, by decide, by omega, by omega, fun H37 rj kp37 src37 hj0 hj1 => ?_⟩
    obtain ⟨j, rfl⟩ : ∃ j : Nat, rj = j := ⟨rj.toNat, by omega⟩
    have hj : j ≤ S.ss.length := by omega
    have m37 := mi_keep kp37
    have hR37 := hR36.mono m37
    have L37 := m37 _ _ L36
    have q37 := m37 _ _ q36
    have hF37 := hF36.mono m37
    have B37 := B36.trans m37
    have hps37 := hps36.mono m37
    refine ⟨_, rfl, L, _, rfl, SqL.of (mi_to L37).2, fun sm hsm => ?_⟩
    rw [cut_take S.ss hj]
    have s38 : Same (mi H37 s) (upd H37 sm (.lst ((S.ss.take j).map V.int))) := (mi_same _ _).trans (same_new hsm)
    have sm38 : (upd H37 sm (.lst ((S.ss.take j).map V.int))) sm = some (.lst ((S.ss.take j).map V.int)) := upd_same
    generalize upd H37 sm (.lst ((S.ss.take j).map V.int)) = H38 at s38 sm38
    have hR38 := hR37.mono s38
    have L38 := s38 _ _ L37
    have q38 := s38 _ _ q37
    have hF38 := hF37.mono s38
    have B38 := B37.trans s38
    have hps38 := hps37.mono s38
    -- (15) remaining_log
    have hspl : ∀ t, cnt S.R S.ss t = cnt S.R (S.ss.take j) t + cnt S.R (S.ss.drop j) t := fun t => by
      rw [← cnt_append, List.take_append_drop]
    have htl : (S.ss.take j).length = j := by rw [List.length_take]; omega
    have htm : ((S.ss.take j).map V.int).length = j := by rw [List.length_map, htl]
    refine ⟨_, rfl, _, rfl, _, rfl, _, rfl, p, q, d, sm, S.R, S.oa, S.ob, S.ss, S.ss.take j, ps, rfl, hR38, q38, hps38, hlog, sm38, by omega, by omega, by omega, fun _ _ x hx => hlimx x (List.mem_of_mem_take hx), fun t => by have := hspl t; omega, fun t6 d6 qs6 H39 s39 ht39 hd39 hlog39 => ?_⟩
    have sm39 := s39 _ _ sm38
    have L39 := s39 _ _ L38
    refine ⟨_, rfl, _, rfl, _, rfl, _, rfl, sm, _, rfl, .inl (SqL.of sm39), _, rfl, L, _, rfl, SqL.of L39, fun dr hdr => ?_⟩
    have hcd : cutV (S.ss.map V.int) (some ((((S.ss.take j).map V.int).length : Nat) : Int)) none = (S.ss.drop j).map V.int := by rw [htm]; exact cut_drop S.ss hj
    rw [hcd]
    have s40 := s39.trans (same_new (o := .lst ((S.ss.drop j).map V.int)) hdr)
    have hdl2 : (S.ss.drop j).length ≤ 6 := by rw [List.length_drop]; omega
    refine ⟨p, q, dr, S.R, S.oa, S.ob, S.ss.drop j, rfl, hR38.mono s40, s40 _ _ q38, upd_same, by omega, by omega, by omega, fun _ _ x hx => hlimx x (List.mem_of_mem_drop hx), fun d7 ps7 H41 s41 hd41 hlog41 => ?_⟩
    refine ⟨by show 2 ≤ sizeLine; decide, fun t8 ht8 => ?_⟩
    have s42 := same_new (o := .tup [.str "log", .ref d7]) ht8
    have hpeq : qs6 = ps7 := (hlog39.mono fun t _ _ => by have := hspl t; omega).eq hlog41
    subst hpeq
    have s3942 : Same H39 (upd H41 t8 (.tup [.str "log", .ref d7])) := ((same_new hdr).trans s41).trans s42
    refine neD_same (logD_lay (by decide +kernel) qs6) (logD_depth _ _) (dp_log (s3942 _ _ ht39) (hd39.mono s3942)) (dp_log upd_same (hd41.mono s42)) ?_
    refine ⟨false, rfl, ?_⟩
    refine iteF ?_
    have s3842 := s39.trans s3942
    generalize upd H41 t8 (.tup [.str "log", .ref d7]) = H42 at s3842
    clear s3942 s42 s40 s41 hd41 ht8
    have q42 := s3842 _ _ q38
    have hF42 := hF38.mono s3842
    have B42 := B38.trans s3842
    -- (16) the outcomes
    refine ⟨_, rfl, hF42.md mU_outcomes, u, sc, p, S, rfl, hF42, n6, fun H43 l9 ys9 s43 hl43 hlen43 hall43 => ?_⟩
    refine ⟨l9, rfl, ⟨_, SqL.of hl43⟩, fun E2 hE2 => lc_pure (walk_list (K := K) (a := l9) (xs := ys9)) (fun _ => false) (fun _ _ _ => True) (fun _ _ _ _ _ h => h) hE2 (by omega) (fun H2 e => e.seq (SqL.of hl43)) ?_ ?_⟩
    · rintro i x H44 H45 Ky Kn hi s44 ⟨rfl, hx⟩ _ hn
      obtain ⟨t, zs, rfl, ht, hout⟩ := hall43 x (List.mem_of_getElem? hx)
      have ht44 := s44 _ _ ht
      refine ⟨rfl, ?_⟩
      rcases hout with ⟨a1, z1, rfl, hz⟩ | rfl | rfl
      · refine ⟨_, rfl, t, _, _, _, rfl, rfl, SqT.of ht44, rfl, rfl, true, rfl, ?_⟩
        refine iteT ?_
        refine ⟨_, rfl, t, _, _, _, rfl, rfl, SqT.of ht44, rfl, _, rfl, q, _, _, _, rfl, rfl, SqT.of (s44 _ _ (s43 _ _ q42)), rfl, _, _, rfl, rfl, false, congrArg V.bl (decide_eq_false (by omega)), ?_⟩
        exact hn rfl _ (Same.refl _)
      · refine ⟨_, rfl, t, _, _, _, rfl, rfl, SqT.of ht44, rfl, rfl, false, congrArg V.bl (decide_eq_false (by decide +kernel)), ?_⟩
        refine iteF ?_
        exact hn rfl _ (Same.refl _)
      · refine ⟨_, rfl, t, _, _, _, rfl, rfl, SqT.of ht44, rfl, rfl, false, congrArg V.bl (decide_eq_false (by decide +kernel)), ?_⟩
        refine iteF ?_
        exact hn rfl _ (Same.refl _)
    intro H44 acc s44 hE3 hm44
    have hacc : acc = [] := by
      have := hm44.len
      rw [List.filter_eq_nil_iff.mpr (fun _ _ => by decide)] at this
      exact List.length_eq_zero_iff.mp this
    subst hacc
    refine ⟨by show 0 ≤ sizeLine; decide, fun e9 he9 => ?_⟩
    have s45 := same_new (o := .lst []) he9
    refine neD_same (d := .list []) (by simp [PyData.canLay0, PyData.canLayAll0]) (by simp [PyData.depth, PyData.depthAll]) (.lst (SqL.of (s45 _ _ hE3)) .nil) (.lst (SqL.of upd_same) .nil) ?_
    refine ⟨false, rfl, ?_⟩
    refine iteF ?_
    exact ⟨_, _, _, _, _, _, _, _, _, _, _, _, _, _, _, _, _, _, rfl, B42.trans (s43.trans (s44.trans s45))⟩
end
end My
set_option Elab.async false
set_option linter.all false
set_option maxRecDepth 100000
set_option maxHeartbeats 0
namespace My
open PySem PySem.Spec PyProof.Rows L2
theorem vals_app {vs zs : List V} {us ws : List Value} (h : Vals vs us) (j : Vals zs ws) : Vals (vs ++ zs) (us ++ ws) := by
  induction h with
  | nil => exact j
  | cons a _ ih => exact .cons a ih
theorem ins_of {K : PySem.W.Frag} {x : Str} (cl : Cls K (He.ga K x)) (e : inB K x = true) : C8.InsC K (He.ga K x) := by
  unfold inB at e
  rw [Bool.and_eq_true, Bool.and_eq_true, Bool.and_eq_true] at e
  obtain ⟨e1, e2, e3, e4⟩ := e
  exact ⟨cl, He.eqO_ok e1, He.eqO_ok e2, of_decide_eq_true e3, of_decide_eq_true e4, if_pos (by simp)⟩
theorem txt_of {K : PySem.W.Frag} {h : Heap} {mg : Str → Option Value} (X : K.In h) (G : h.Ns mainGlobals mg) (c : He.SaysD fa fn K) (ex : exB K = true) : Txt K mg where
  clE := He.cls_ok (c.fact 22 (f := .cls "Expected"))
  gE := He.glo_ok X G (c.fact 21 (f := .glo "Expected"))
  mkE := He.mkr_ok (c.fact 23 (f := .mkr "Expected"))
  nE_schedule := He.noat_ok (c.fact 24 (f := .noat "Expected" "schedule"))
  nE_window := He.noat_ok (c.fact 25 (f := .noat "Expected" "window"))
  nE_waiting := He.noat_ok (c.fact 26 (f := .noat "Expected" "waiting"))
  mE_add := He.meth_ok (c.fact 27 (f := .meth "Expected" "add"))
  mE_next_slot := He.meth_ok (c.fact 28 (f := .meth "Expected" "next_slot"))
  mE_take := He.meth_ok (c.fact 29 (f := .meth "Expected" "take"))
  clR := He.cls_ok (c.fact 31 (f := .cls "Rule"))
  gR := He.glo_ok X G (c.fact 30 (f := .glo "Rule"))
  mkR := He.mkr_ok (c.fact 32 (f := .mkr "Rule"))
  nR_listed := He.noat_ok (c.fact 33 (f := .noat "Rule" "listed"))
  nR_ending := He.noat_ok (c.fact 34 (f := .noat "Rule" "ending"))
  nR_sums := He.noat_ok (c.fact 35 (f := .noat "Rule" "sums"))
  mR_gaps := He.meth_ok (c.fact 36 (f := .meth "Rule" "gaps"))
  mR_tail := He.meth_ok (c.fact 37 (f := .meth "Rule" "tail"))
  mR_attempts := He.meth_ok (c.fact 38 (f := .meth "Rule" "attempts"))
  mR_offset_of := He.meth_ok (c.fact 39 (f := .meth "Rule" "offset_of"))
  mR_period := He.meth_ok (c.fact 40 (f := .meth "Rule" "period"))
  mR_first_from := He.meth_ok (c.fact 41 (f := .meth "Rule" "first_from"))
  mR_attempt_at := He.meth_ok (c.fact 42 (f := .meth "Rule" "attempt_at"))
  clS := He.cls_ok (c.fact 44 (f := .cls "Scene"))
  gS := He.glo_ok X G (c.fact 43 (f := .glo "Scene"))
  mkS := He.mkr_ok (c.fact 45 (f := .mkr "Scene"))
  nS_its_rule := He.noat_ok (c.fact 46 (f := .noat "Scene" "its_rule"))
  nS_its_starts := He.noat_ok (c.fact 47 (f := .noat "Scene" "its_starts"))
  nS_windows := He.noat_ok (c.fact 48 (f := .noat "Scene" "windows"))
  nS_its_length := He.noat_ok (c.fact 49 (f := .noat "Scene" "its_length"))
  mS_rule := He.meth_ok (c.fact 50 (f := .meth "Scene" "rule"))
  mS_starts := He.meth_ok (c.fact 51 (f := .meth "Scene" "starts"))
  mS_outages := He.meth_ok (c.fact 52 (f := .meth "Scene" "outages"))
  mS_length := He.meth_ok (c.fact 53 (f := .meth "Scene" "length"))
  mS_check_client := He.meth_ok (c.fact 54 (f := .meth "Scene" "check_client"))
  mS_attempt_in := He.meth_ok (c.fact 55 (f := .meth "Scene" "attempt_in"))
  mS_outage_at := He.meth_ok (c.fact 56 (f := .meth "Scene" "outage_at"))
  mS_listed_slots := He.meth_ok (c.fact 57 (f := .meth "Scene" "listed_slots"))
  mS_moments := He.meth_ok (c.fact 58 (f := .meth "Scene" "moments"))
  clU := He.cls_ok (c.fact 60 (f := .cls "Run"))
  gU := He.glo_ok X G (c.fact 59 (f := .glo "Run"))
  mkU := He.mkr_ok (c.fact 61 (f := .mkr "Run"))
  nU_its_scene := He.noat_ok (c.fact 62 (f := .noat "Run" "its_scene"))
  nU_pattern := He.noat_ok (c.fact 63 (f := .noat "Run" "pattern"))
  nU_begins := He.noat_ok (c.fact 64 (f := .noat "Run" "begins"))
  nU_changes := He.noat_ok (c.fact 65 (f := .noat "Run" "changes"))
  nU_services := He.noat_ok (c.fact 66 (f := .noat "Run" "services"))
  nU_closed := He.noat_ok (c.fact 67 (f := .noat "Run" "closed"))
  nU_waiting := He.noat_ok (c.fact 68 (f := .noat "Run" "waiting"))
  nU_free_from := He.noat_ok (c.fact 69 (f := .noat "Run" "free_from"))
  mU_advance := He.meth_ok (c.fact 70 (f := .meth "Run" "advance"))
  mU_failing_until := He.meth_ok (c.fact 71 (f := .meth "Run" "failing_until"))
  mU_skip_to := He.meth_ok (c.fact 72 (f := .meth "Run" "skip_to"))
  mU_latest_moment := He.meth_ok (c.fact 73 (f := .meth "Run" "latest_moment"))
  mU_is_repeated := He.meth_ok (c.fact 74 (f := .meth "Run" "is_repeated"))
  mU_close := He.meth_ok (c.fact 75 (f := .meth "Run" "close"))
  mU_decide := He.meth_ok (c.fact 76 (f := .meth "Run" "decide"))
  mU_outcome := He.meth_ok (c.fact 77 (f := .meth "Run" "outcome"))
  mU_outcomes := He.meth_ok (c.fact 78 (f := .meth "Run" "outcomes"))
  mU_order := He.meth_ok (c.fact 79 (f := .meth "Run" "order"))
  mU_is_active := He.meth_ok (c.fact 80 (f := .meth "Run" "is_active"))
  mU_active := He.meth_ok (c.fact 81 (f := .meth "Run" "active"))
  mU_attempting := He.meth_ok (c.fact 82 (f := .meth "Run" "attempting"))
  mU_busy_with := He.meth_ok (c.fact 83 (f := .meth "Run" "busy_with"))
  mU_event := He.meth_ok (c.fact 84 (f := .meth "Run" "event"))
  g_is_integer := He.glo_ok X G (c.fact 0 (f := .glo "is_integer"))
  g_is_between := He.glo_ok X G (c.fact 1 (f := .glo "is_between"))
  g_power := He.glo_ok X G (c.fact 2 (f := .glo "power"))
  g_check_window := He.glo_ok X G (c.fact 3 (f := .glo "check_window"))
  g_is_entry := He.glo_ok X G (c.fact 4 (f := .glo "is_entry"))
  g_check_log := He.glo_ok X G (c.fact 5 (f := .glo "check_log"))
  g_check_starts_logs := He.glo_ok X G (c.fact 6 (f := .glo "check_starts_logs"))
  g_slots_in := He.glo_ok X G (c.fact 7 (f := .glo "slots_in"))
  g_counts_of := He.glo_ok X G (c.fact 8 (f := .glo "counts_of"))
  g_expected_log := He.glo_ok X G (c.fact 9 (f := .glo "expected_log"))
  g_infer_starts := He.glo_ok X G (c.fact 10 (f := .glo "infer_starts"))
  g_remaining_log := He.glo_ok X G (c.fact 11 (f := .glo "remaining_log"))
  g_is_tail := He.glo_ok X G (c.fact 12 (f := .glo "is_tail"))
  g_check_starts_scenes := He.glo_ok X G (c.fact 13 (f := .glo "check_starts_scenes"))
  g_is_window := He.glo_ok X G (c.fact 14 (f := .glo "is_window"))
  g_check_outages := He.glo_ok X G (c.fact 15 (f := .glo "check_outages"))
  g_law_source_of := He.glo_ok X G (c.fact 16 (f := .glo "_law_source_of"))
  g_law_next := He.glo_ok X G (c.fact 17 (f := .glo "_law_next"))
  g_law_one := He.glo_ok X G (c.fact 18 (f := .glo "_law_one"))
  g_law_cell_at := He.glo_ok X G (c.fact 19 (f := .glo "_law_cell_at"))
  g_law := He.glo_ok X G (c.fact 20 (f := .glo "law"))
  i_MOST_ENTRIES := intF X G (c.fact 85 (f := .int "MOST_ENTRIES" 500))
  i_MOST_STARTS := intF X G (c.fact 86 (f := .int "MOST_STARTS" 40))
  i_MOST_GAPS := intF X G (c.fact 87 (f := .int "MOST_GAPS" 20))
  i_MOST_GAP := intF X G (c.fact 88 (f := .int "MOST_GAP" 1000000000000))
  i_MOST_FACTOR := intF X G (c.fact 89 (f := .int "MOST_FACTOR" 1000))
  i_MOST_CLIENTS := intF X G (c.fact 90 (f := .int "MOST_CLIENTS" 40))
  i_MOST_OUTAGES := intF X G (c.fact 91 (f := .int "MOST_OUTAGES" 10))
  f_isinstance := He.free_ok X G (c.fact 92 (f := .free "isinstance"))
  f_int := He.free_ok X G (c.fact 93 (f := .free "int"))
  f_bool := He.free_ok X G (c.fact 94 (f := .free "bool"))
  f_tuple := He.free_ok X G (c.fact 95 (f := .free "tuple"))
  f_list := He.free_ok X G (c.fact 96 (f := .free "list"))
  f_str := He.free_ok X G (c.fact 97 (f := .free "str"))
  f_len := He.free_ok X G (c.fact 98 (f := .free "len"))
  f_all := He.free_ok X G (c.fact 99 (f := .free "all"))
  f_enumerate := He.free_ok X G (c.fact 100 (f := .free "enumerate"))
  f_range := He.free_ok X G (c.fact 101 (f := .free "range"))
  f_sorted := He.free_ok X G (c.fact 102 (f := .free "sorted"))
  f_min := He.free_ok X G (c.fact 103 (f := .free "min"))
  f_max := He.free_ok X G (c.fact 104 (f := .free "max"))
  f_sum := He.free_ok X G (c.fact 105 (f := .free "sum"))
  f_dict := He.free_ok X G (c.fact 106 (f := .free "dict"))
  f_set := He.free_ok X G (c.fact 107 (f := .free "set"))
  iR := ins_of (He.cls_ok (c.fact 31 (f := .cls "Rule"))) (Bool.and_eq_true_iff.mp ex).1
  iS := ins_of (He.cls_ok (c.fact 44 (f := .cls "Scene"))) (Bool.and_eq_true_iff.mp ex).2
theorem facts {P : Program} {w : World} {K : PySem.W.Frag} {h : Heap} {mg : Str → Option Value} {f : Addr} (X : K.In h) (G : h.Ns mainGlobals mg) (hfa : mg ("law" : Str) = some (.ref f)) (c : He.SaysD fa fn K) (ex : exB K = true) :
    ∃ fd : FuncData, (∀ (s : Shared) (v : Value), BindsTo s fd ⟨[v], []⟩ [("_law_script", v)]) ∧ ∀ base : Heap, K.In base → base.Ns mainGlobals mg → FnOk P w K mg base CX0 9 f fd ["_law_script"] (sp_law K) := by
  have T := txt_of X G c ex
  obtain ⟨fd_is_integer, F_is_integer⟩ := c.def_ 0 (d := d_is_integer)
  obtain ⟨fd_is_between, F_is_between⟩ := c.def_ 1 (d := d_is_between)
  obtain ⟨fd_is_tail, F_is_tail⟩ := c.def_ 16 (d := d_is_tail)
  obtain ⟨fd_Rule_init, F_Rule_init⟩ := c.def_ 17 (d := d_Rule_init)
  obtain ⟨fd_Rule_period, F_Rule_period⟩ := c.def_ 22 (d := d_Rule_period)
  obtain ⟨fd_Rule_gaps, F_Rule_gaps⟩ := c.def_ 18 (d := d_Rule_gaps)
  obtain ⟨fd_power, F_power⟩ := c.def_ 2 (d := d_power)
  obtain ⟨fd_Rule_offset_of, F_Rule_offset_of⟩ := c.def_ 21 (d := d_Rule_offset_of)
  obtain ⟨fd_Rule_tail, F_Rule_tail⟩ := c.def_ 19 (d := d_Rule_tail)
  obtain ⟨fd_Scene_listed_slots, F_Scene_listed_slots⟩ := c.def_ 36 (d := d_Scene_listed_slots)
  obtain ⟨fd_Scene_moments, F_Scene_moments⟩ := c.def_ 37 (d := d_Scene_moments)
  obtain ⟨fd_Scene_rule, F_Scene_rule⟩ := c.def_ 29 (d := d_Scene_rule)
  obtain ⟨fd_Scene_starts, F_Scene_starts⟩ := c.def_ 30 (d := d_Scene_starts)
  obtain ⟨fd_Run_latest_moment, F_Run_latest_moment⟩ := c.def_ 42 (d := d_Run_latest_moment)
  obtain ⟨fd_Run_close, F_Run_close⟩ := c.def_ 44 (d := d_Run_close)
  obtain ⟨fd_Rule_first_from, F_Rule_first_from⟩ := c.def_ 23 (d := d_Rule_first_from)
  obtain ⟨fd_Rule_attempt_at, F_Rule_attempt_at⟩ := c.def_ 24 (d := d_Rule_attempt_at)
  obtain ⟨fd_Rule_attempts, F_Rule_attempts⟩ := c.def_ 20 (d := d_Rule_attempts)
  obtain ⟨fd_Scene_length, F_Scene_length⟩ := c.def_ 32 (d := d_Scene_length)
  obtain ⟨fd_Run_decide, F_Run_decide⟩ := c.def_ 45 (d := d_Run_decide)
  obtain ⟨fd_Scene_outage_at, F_Scene_outage_at⟩ := c.def_ 35 (d := d_Scene_outage_at)
  obtain ⟨fd_Scene_outages, F_Scene_outages⟩ := c.def_ 31 (d := d_Scene_outages)
  obtain ⟨fd_Run_failing_until, F_Run_failing_until⟩ := c.def_ 40 (d := d_Run_failing_until)
  obtain ⟨fd_Run_is_repeated, F_Run_is_repeated⟩ := c.def_ 43 (d := d_Run_is_repeated)
  obtain ⟨fd_Run_skip_to, F_Run_skip_to⟩ := c.def_ 41 (d := d_Run_skip_to)
  obtain ⟨fd_Run_advance, F_Run_advance⟩ := c.def_ 39 (d := d_Run_advance)
  obtain ⟨fd_Run_init, F_Run_init⟩ := c.def_ 38 (d := d_Run_init)
  obtain ⟨fd_is_window, F_is_window⟩ := c.def_ 26 (d := d_is_window)
  obtain ⟨fd_check_outages, F_check_outages⟩ := c.def_ 27 (d := d_check_outages)
  obtain ⟨fd_check_starts_scenes, F_check_starts_scenes⟩ := c.def_ 25 (d := d_check_starts_scenes)
  obtain ⟨fd_Scene_init, F_Scene_init⟩ := c.def_ 28 (d := d_Scene_init)
  obtain ⟨fd_Scene_check_client, F_Scene_check_client⟩ := c.def_ 33 (d := d_Scene_check_client)
  obtain ⟨fd_Scene_attempt_in, F_Scene_attempt_in⟩ := c.def_ 34 (d := d_Scene_attempt_in)
  obtain ⟨fd_Run_is_active, F_Run_is_active⟩ := c.def_ 49 (d := d_Run_is_active)
  obtain ⟨fd_Run_active, F_Run_active⟩ := c.def_ 50 (d := d_Run_active)
  obtain ⟨fd_Run_attempting, F_Run_attempting⟩ := c.def_ 51 (d := d_Run_attempting)
  obtain ⟨fd_Run_order, F_Run_order⟩ := c.def_ 48 (d := d_Run_order)
  obtain ⟨fd_Run_busy_with, F_Run_busy_with⟩ := c.def_ 52 (d := d_Run_busy_with)
  obtain ⟨fd_Run_event, F_Run_event⟩ := c.def_ 53 (d := d_Run_event)
  obtain ⟨fd_Run_outcome, F_Run_outcome⟩ := c.def_ 46 (d := d_Run_outcome)
  obtain ⟨fd_Run_outcomes, F_Run_outcomes⟩ := c.def_ 47 (d := d_Run_outcomes)
  obtain ⟨fd_check_starts_logs, F_check_starts_logs⟩ := c.def_ 6 (d := d_check_starts_logs)
  obtain ⟨fd_check_window, F_check_window⟩ := c.def_ 3 (d := d_check_window)
  obtain ⟨fd_slots_in, F_slots_in⟩ := c.def_ 7 (d := d_slots_in)
  obtain ⟨fd_counts_of, F_counts_of⟩ := c.def_ 8 (d := d_counts_of)
  obtain ⟨fd_expected_log, F_expected_log⟩ := c.def_ 9 (d := d_expected_log)
  obtain ⟨fd_Expected_add, F_Expected_add⟩ := c.def_ 11 (d := d_Expected_add)
  obtain ⟨fd_Expected_next_slot, F_Expected_next_slot⟩ := c.def_ 12 (d := d_Expected_next_slot)
  obtain ⟨fd_Expected_take, F_Expected_take⟩ := c.def_ 13 (d := d_Expected_take)
  obtain ⟨fd_Expected_init, F_Expected_init⟩ := c.def_ 10 (d := d_Expected_init)
  obtain ⟨fd_is_entry, F_is_entry⟩ := c.def_ 4 (d := d_is_entry)
  obtain ⟨fd_check_log, F_check_log⟩ := c.def_ 5 (d := d_check_log)
  obtain ⟨fd_infer_starts, F_infer_starts⟩ := c.def_ 14 (d := d_infer_starts)
  obtain ⟨fd_law_cell_at, F_law_cell_at⟩ := c.def_ 57 (d := d_law_cell_at)
  obtain ⟨fd_law_next, F_law_next⟩ := c.def_ 55 (d := d_law_next)
  obtain ⟨fd_law_one, F_law_one⟩ := c.def_ 56 (d := d_law_one)
  obtain ⟨fd_law_source_of, F_law_source_of⟩ := c.def_ 54 (d := d_law_source_of)
  obtain ⟨fd_remaining_log, F_remaining_log⟩ := c.def_ 15 (d := d_remaining_log)
  obtain ⟨fd_law, F_law⟩ := c.def_ 58 (d := d_law)
  have e := hfa.symm.trans T.g_law
  cases e
  have bl := FunD.bindsA (ps := ["_law_script"]) F_law fun _ _ _ _ _ _ us hl => match us, hl with | [_], _ => rfl
  refine ⟨fd_law, fun s v => bl s [v] rfl, fun base _ _ => ?_⟩
  have c_is_integer : C8.Cal P w K mg base 1 "is_integer" (sp_is_integer K) [] := ⟨_, _, _, [], (ok_is_integer F_is_integer T), T.g_is_integer, F_is_integer.kp, (FunD.bindsN (ps := ["value"]) F_is_integer fun _ _ _ _ _ _ us hl => match us, hl with | [_], _ => rfl), .nil⟩
  have c_is_between : C8.Cal P w K mg base 2 "is_between" (sp_is_between K) [] := ⟨_, _, _, [], (ok_is_between F_is_between T c_is_integer), T.g_is_between, F_is_between.kp, (FunD.bindsN (ps := ["value", "low", "high"]) F_is_between fun _ _ _ _ _ _ us hl => match us, hl with | [_, _, _], _ => rfl), .nil⟩
  have c_is_tail : C8.Cal P w K mg base 3 "is_tail" (sp_is_tail K) [] := ⟨_, _, _, [], (ok_is_tail F_is_tail T c_is_between), T.g_is_tail, F_is_tail.kp, (FunD.bindsN (ps := ["tail", "gap_count"]) F_is_tail fun _ _ _ _ _ _ us hl => match us, hl with | [_, _], _ => rfl), .nil⟩
  have c_Rule : C8.Mak P w K mg base 4 "Rule" (cR K) (sp_Rule_init K) [] := ⟨_, _, _, [], T.mkR, (ok_Rule_init F_Rule_init T c_is_between c_is_tail), T.gR, (FunD.bindsN (ps := ["self", "gaps", "tail"]) F_Rule_init fun _ _ _ _ _ _ us hl => match us, hl with | [_, _, _], _ => rfl), .nil⟩
  have c_R_period : C8.Met P w K mg base 1 (cR K) "period" (sp_Rule_period K) [] := ⟨_, _, _, [], T.clR, T.mR_period, (ok_Rule_period F_Rule_period T), (FunD.bindsN (ps := ["self"]) F_Rule_period fun _ _ _ _ _ _ us hl => match us, hl with | [_], _ => rfl), .nil⟩
  have c_R_gaps : C8.Met P w K mg base 1 (cR K) "gaps" (sp_Rule_gaps K) [] := ⟨_, _, _, [], T.clR, T.mR_gaps, (ok_Rule_gaps F_Rule_gaps T), (FunD.bindsN (ps := ["self"]) F_Rule_gaps fun _ _ _ _ _ _ us hl => match us, hl with | [_], _ => rfl), .nil⟩
  have c_power : C8.Cal P w K mg base 1 "power" (sp_power K) [] := ⟨_, _, _, [], (ok_power F_power T), T.g_power, F_power.kp, (FunD.bindsN (ps := ["base", "exponent"]) F_power fun _ _ _ _ _ _ us hl => match us, hl with | [_, _], _ => rfl), .nil⟩
  have c_R_offset_of : C8.Met P w K mg base 2 (cR K) "offset_of" (sp_Rule_offset_of K) [] := ⟨_, _, _, [], T.clR, T.mR_offset_of, (ok_Rule_offset_of F_Rule_offset_of T c_R_period c_power), (FunD.bindsN (ps := ["self", "attempt"]) F_Rule_offset_of fun _ _ _ _ _ _ us hl => match us, hl with | [_, _], _ => rfl), .nil⟩
  have c_R_tail : C8.Met P w K mg base 1 (cR K) "tail" (sp_Rule_tail K) [] := ⟨_, _, _, [], T.clR, T.mR_tail, (ok_Rule_tail F_Rule_tail T), (FunD.bindsN (ps := ["self"]) F_Rule_tail fun _ _ _ _ _ _ us hl => match us, hl with | [_], _ => rfl), .nil⟩
  have c_S_listed_slots : C8.Met P w K mg base 3 (cS K) "listed_slots" (sp_Scene_listed_slots K) [] := ⟨_, _, _, [], T.clS, T.mS_listed_slots, (ok_Scene_listed_slots F_Scene_listed_slots T c_R_gaps c_R_offset_of c_R_tail), (FunD.bindsN (ps := ["self", "client"]) F_Scene_listed_slots fun _ _ _ _ _ _ us hl => match us, hl with | [_, _], _ => rfl), .nil⟩
  have c_S_moments : C8.Met P w K mg base 4 (cS K) "moments" (sp_Scene_moments K) [] := ⟨_, _, _, [], T.clS, T.mS_moments, (ok_Scene_moments F_Scene_moments T c_R_period c_S_listed_slots), (FunD.bindsN (ps := ["self"]) F_Scene_moments fun _ _ _ _ _ _ us hl => match us, hl with | [_], _ => rfl), .nil⟩
  have c_S_rule : C8.Met P w K mg base 1 (cS K) "rule" (sp_Scene_rule K) [] := ⟨_, _, _, [], T.clS, T.mS_rule, (ok_Scene_rule F_Scene_rule T), (FunD.bindsN (ps := ["self"]) F_Scene_rule fun _ _ _ _ _ _ us hl => match us, hl with | [_], _ => rfl), .nil⟩
  have c_S_starts : C8.Met P w K mg base 1 (cS K) "starts" (sp_Scene_starts K) [] := ⟨_, _, _, [], T.clS, T.mS_starts, (ok_Scene_starts F_Scene_starts T), (FunD.bindsN (ps := ["self"]) F_Scene_starts fun _ _ _ _ _ _ us hl => match us, hl with | [_], _ => rfl), .nil⟩
  have c_U_latest_moment : C8.Met P w K mg base 1 (cU K) "latest_moment" (sp_Run_latest_moment K) [] := ⟨_, _, _, [], T.clU, T.mU_latest_moment, (ok_Run_latest_moment F_Run_latest_moment T), (FunD.bindsN (ps := ["self", "slot"]) F_Run_latest_moment fun _ _ _ _ _ _ us hl => match us, hl with | [_, _], _ => rfl), .nil⟩
  have c_U_close : C8.Met P w K mg base 4 (cU K) "close" (sp_Run_close K) [] := ⟨_, _, _, [], T.clU, T.mU_close, (ok_Run_close F_Run_close T c_S_listed_slots c_U_latest_moment), (FunD.bindsN (ps := ["self", "slot"]) F_Run_close fun _ _ _ _ _ _ us hl => match us, hl with | [_, _], _ => rfl), .nil⟩
  have c_R_first_from : C8.Met P w K mg base 3 (cR K) "first_from" (sp_Rule_first_from K) [] := ⟨_, _, _, [], T.clR, T.mR_first_from, (ok_Rule_first_from F_Rule_first_from T c_R_offset_of c_R_period c_is_integer), (FunD.bindsN (ps := ["self", "distance"]) F_Rule_first_from fun _ _ _ _ _ _ us hl => match us, hl with | [_, _], _ => rfl), .nil⟩
  have c_R_attempt_at : C8.Met P w K mg base 4 (cR K) "attempt_at" (sp_Rule_attempt_at K) [] := ⟨_, _, _, [], T.clR, T.mR_attempt_at, (ok_Rule_attempt_at F_Rule_attempt_at T c_R_first_from c_R_offset_of), (FunD.bindsN (ps := ["self", "distance"]) F_Rule_attempt_at fun _ _ _ _ _ _ us hl => match us, hl with | [_, _], _ => rfl), .nil⟩
  have c_R_attempts : C8.Met P w K mg base 1 (cR K) "attempts" (sp_Rule_attempts K) [] := ⟨_, _, _, [], T.clR, T.mR_attempts, (ok_Rule_attempts F_Rule_attempts T), (FunD.bindsN (ps := ["self"]) F_Rule_attempts fun _ _ _ _ _ _ us hl => match us, hl with | [_], _ => rfl), .nil⟩
  have c_S_length : C8.Met P w K mg base 1 (cS K) "length" (sp_Scene_length K) [] := ⟨_, _, _, [], T.clS, T.mS_length, (ok_Scene_length F_Scene_length T), (FunD.bindsN (ps := ["self"]) F_Scene_length fun _ _ _ _ _ _ us hl => match us, hl with | [_], _ => rfl), .nil⟩
  have c_U_decide : C8.Met P w K mg base 5 (cU K) "decide" (sp_Run_decide K) [] := ⟨_, _, _, [], T.clU, T.mU_decide, (ok_Run_decide F_Run_decide T c_R_attempt_at c_R_attempts c_S_length), (FunD.bindsN (ps := ["self", "slot", "clients"]) F_Run_decide fun _ _ _ _ _ _ us hl => match us, hl with | [_, _, _], _ => rfl), .nil⟩
  have c_S_outage_at : C8.Met P w K mg base 2 (cS K) "outage_at" (sp_Scene_outage_at K) [] := ⟨_, _, _, [], T.clS, T.mS_outage_at, (ok_Scene_outage_at F_Scene_outage_at T c_is_integer), (FunD.bindsN (ps := ["self", "slot"]) F_Scene_outage_at fun _ _ _ _ _ _ us hl => match us, hl with | [_, _], _ => rfl), .nil⟩
  have c_S_outages : C8.Met P w K mg base 1 (cS K) "outages" (sp_Scene_outages K) [] := ⟨_, _, _, [], T.clS, T.mS_outages, (ok_Scene_outages F_Scene_outages T), (FunD.bindsN (ps := ["self"]) F_Scene_outages fun _ _ _ _ _ _ us hl => match us, hl with | [_], _ => rfl), .nil⟩
  have c_U_failing_until : C8.Met P w K mg base 3 (cU K) "failing_until" (sp_Run_failing_until K) [] := ⟨_, _, _, [], T.clU, T.mU_failing_until, (ok_Run_failing_until F_Run_failing_until T c_S_outage_at c_S_outages), (FunD.bindsN (ps := ["self", "slot"]) F_Run_failing_until fun _ _ _ _ _ _ us hl => match us, hl with | [_, _], _ => rfl), .nil⟩
  have c_U_is_repeated : C8.Met P w K mg base 2 (cU K) "is_repeated" (sp_Run_is_repeated K) [] := ⟨_, _, _, [], T.clU, T.mU_is_repeated, (ok_Run_is_repeated F_Run_is_repeated T c_R_period c_U_latest_moment), (FunD.bindsN (ps := ["self", "slot"]) F_Run_is_repeated fun _ _ _ _ _ _ us hl => match us, hl with | [_, _], _ => rfl), .nil⟩
  have c_U_skip_to : C8.Met P w K mg base 4 (cU K) "skip_to" (sp_Run_skip_to K) [] := ⟨_, _, _, [], T.clU, T.mU_skip_to, (ok_Run_skip_to F_Run_skip_to T c_R_first_from), (FunD.bindsN (ps := ["self", "slot"]) F_Run_skip_to fun _ _ _ _ _ _ us hl => match us, hl with | [_, _], _ => rfl), .nil⟩
  have c_U_advance : C8.Met P w K mg base 6 (cU K) "advance" (sp_Run_advance K) [] := ⟨_, _, _, [], T.clU, T.mU_advance, (ok_Run_advance F_Run_advance T c_R_offset_of c_U_close c_U_decide c_U_failing_until c_U_is_repeated c_U_skip_to), (FunD.bindsN (ps := ["self"]) F_Run_advance fun _ _ _ _ _ _ us hl => match us, hl with | [_], _ => rfl), .nil⟩
  have c_Run : C8.Mak P w K mg base 7 "Run" (cU K) (lockSp 2 (sp_Run_init K)) [] := ⟨_, _, _, [], T.mkU, (ok_Run_init F_Run_init T c_S_moments c_S_rule c_S_starts c_U_advance), T.gU, (FunD.bindsN (ps := ["self", "scene"]) F_Run_init fun _ _ _ _ _ _ us hl => match us, hl with | [_, _], _ => rfl), .nil⟩
  have c_is_window : C8.Cal P w K mg base 2 "is_window" (sp_is_window K) [] := ⟨_, _, _, [], (ok_is_window F_is_window T c_is_integer), T.g_is_window, F_is_window.kp, (FunD.bindsN (ps := ["value"]) F_is_window fun _ _ _ _ _ _ us hl => match us, hl with | [_], _ => rfl), .nil⟩
  have c_check_outages : C8.Cal P w K mg base 3 "check_outages" (sp_check_outages K) [] := ⟨_, _, _, [], (ok_check_outages F_check_outages T c_is_window), T.g_check_outages, F_check_outages.kp, (FunD.bindsN (ps := ["outages"]) F_check_outages fun _ _ _ _ _ _ us hl => match us, hl with | [_], _ => rfl), .nil⟩
  have c_check_starts_scenes : C8.Cal P w K mg base 2 "check_starts_scenes" (sp_check_starts_scenes K) [] := ⟨_, _, _, [], (ok_check_starts_scenes F_check_starts_scenes T c_is_integer), T.g_check_starts_scenes, F_check_starts_scenes.kp, (FunD.bindsN (ps := ["starts"]) F_check_starts_scenes fun _ _ _ _ _ _ us hl => match us, hl with | [_], _ => rfl), .nil⟩
  obtain ⟨mv, kb⟩ := FunD.kbinds0 (ps := ["self", "rule", "starts", "outages", "length"]) F_Scene_init 3 [("outages" : Str), ("length" : Str)] [] (fun vs _ zs => vs ++ zs) (fun e => by cases e) (fun q hq => absurd hq List.not_mem_nil) (fun r1 _ r3 => vals_app r1 r3)
    (fun D doc pm an cdv ct us mv ws h1 h2 h3 => match us, mv, ws, h1, h2, h3 with | [_, _, _], [], [_, _], _, _, _ => rfl)
  have c_Scene : MakS P w K mg base 4 (lockSp 5 (sp_Scene_init K)) := ⟨_, _, _, _, T.mkS, (ok_Scene_init F_Scene_init T c_check_outages c_check_starts_scenes c_is_integer), T.gS, kb⟩
  have c_S_check_client : C8.Met P w K mg base 3 (cS K) "check_client" (sp_Scene_check_client K) [] := ⟨_, _, _, [], T.clS, T.mS_check_client, (ok_Scene_check_client F_Scene_check_client T c_is_between), (FunD.bindsN (ps := ["self", "client"]) F_Scene_check_client fun _ _ _ _ _ _ us hl => match us, hl with | [_, _], _ => rfl), .nil⟩
  have c_S_attempt_in : C8.Met P w K mg base 5 (cS K) "attempt_in" (sp_Scene_attempt_in K) [] := ⟨_, _, _, [], T.clS, T.mS_attempt_in, (ok_Scene_attempt_in F_Scene_attempt_in T c_R_attempt_at c_S_check_client c_is_integer), (FunD.bindsN (ps := ["self", "client", "slot"]) F_Scene_attempt_in fun _ _ _ _ _ _ us hl => match us, hl with | [_, _, _], _ => rfl), .nil⟩
  have c_U_is_active : C8.Met P w K mg base 4 (cU K) "is_active" (sp_Run_is_active K) [] := ⟨_, _, _, [], T.clU, T.mU_is_active, (ok_Run_is_active F_Run_is_active T c_R_first_from), (FunD.bindsN (ps := ["self", "client", "slot"]) F_Run_is_active fun _ _ _ _ _ _ us hl => match us, hl with | [_, _, _], _ => rfl), .nil⟩
  have c_U_active : C8.Met P w K mg base 5 (cU K) "active" (sp_Run_active K) [] := ⟨_, _, _, [], T.clU, T.mU_active, (ok_Run_active F_Run_active T c_U_is_active c_is_integer), (FunD.bindsN (ps := ["self", "slot"]) F_Run_active fun _ _ _ _ _ _ us hl => match us, hl with | [_, _], _ => rfl), .nil⟩
  have c_U_attempting : C8.Met P w K mg base 6 (cU K) "attempting" (sp_Run_attempting K) [] := ⟨_, _, _, [], T.clU, T.mU_attempting, (ok_Run_attempting F_Run_attempting T c_S_attempt_in c_U_active), (FunD.bindsN (ps := ["self", "slot"]) F_Run_attempting fun _ _ _ _ _ _ us hl => match us, hl with | [_, _], _ => rfl), .nil⟩
  have c_U_order : C8.Met P w K mg base 1 (cU K) "order" (sp_Run_order K) [] := ⟨_, _, _, [], T.clU, T.mU_order, (ok_Run_order F_Run_order T), (FunD.bindsN (ps := ["self"]) F_Run_order fun _ _ _ _ _ _ us hl => match us, hl with | [_], _ => rfl), .nil⟩
  have c_U_busy_with : C8.Met P w K mg base 2 (cU K) "busy_with" (sp_Run_busy_with K) [] := ⟨_, _, _, [], T.clU, T.mU_busy_with, (ok_Run_busy_with F_Run_busy_with T c_S_length c_U_order), (FunD.bindsN (ps := ["self", "slot"]) F_Run_busy_with fun _ _ _ _ _ _ us hl => match us, hl with | [_, _], _ => rfl), .nil⟩
  have c_U_event : C8.Met P w K mg base 7 (cU K) "event" (sp_Run_event K) [] := ⟨_, _, _, [], T.clU, T.mU_event, (ok_Run_event F_Run_event T c_S_outage_at c_U_attempting c_U_busy_with), (FunD.bindsN (ps := ["self", "slot"]) F_Run_event fun _ _ _ _ _ _ us hl => match us, hl with | [_, _], _ => rfl), .nil⟩
  have c_U_outcome : C8.Met P w K mg base 4 (cU K) "outcome" (sp_Run_outcome K) [] := ⟨_, _, _, [], T.clU, T.mU_outcome, (ok_Run_outcome F_Run_outcome T c_R_attempts c_S_check_client), (FunD.bindsN (ps := ["self", "client"]) F_Run_outcome fun _ _ _ _ _ _ us hl => match us, hl with | [_, _], _ => rfl), .nil⟩
  have c_U_outcomes : C8.Met P w K mg base 5 (cU K) "outcomes" (sp_Run_outcomes K) [] := ⟨_, _, _, [], T.clU, T.mU_outcomes, (ok_Run_outcomes F_Run_outcomes T c_U_outcome), (FunD.bindsN (ps := ["self"]) F_Run_outcomes fun _ _ _ _ _ _ us hl => match us, hl with | [_], _ => rfl), .nil⟩
  have c_check_starts_logs : C8.Cal P w K mg base 2 "check_starts_logs" (sp_check_starts_logs K) [] := ⟨_, _, _, [], (ok_check_starts_logs F_check_starts_logs T c_is_integer), T.g_check_starts_logs, F_check_starts_logs.kp, (FunD.bindsN (ps := ["starts"]) F_check_starts_logs fun _ _ _ _ _ _ us hl => match us, hl with | [_], _ => rfl), .nil⟩
  have c_check_window : C8.Cal P w K mg base 2 "check_window" (sp_check_window K) [] := ⟨_, _, _, [], (ok_check_window F_check_window T c_is_integer), T.g_check_window, F_check_window.kp, (FunD.bindsN (ps := ["window"]) F_check_window fun _ _ _ _ _ _ us hl => match us, hl with | [_], _ => rfl), .nil⟩
  have c_slots_in : C8.Cal P w K mg base 4 "slots_in" (sp_slots_in K) [] := ⟨_, _, _, [], (ok_slots_in F_slots_in T c_R_attempts c_R_first_from c_R_offset_of), T.g_slots_in, F_slots_in.kp, (FunD.bindsN (ps := ["rule", "window", "start"]) F_slots_in fun _ _ _ _ _ _ us hl => match us, hl with | [_, _, _], _ => rfl), .nil⟩
  have c_counts_of : C8.Cal P w K mg base 5 "counts_of" (sp_counts_of K) [] := ⟨_, _, _, [], (ok_counts_of F_counts_of T c_slots_in), T.g_counts_of, F_counts_of.kp, (FunD.bindsN (ps := ["rule", "window", "starts"]) F_counts_of fun _ _ _ _ _ _ us hl => match us, hl with | [_, _, _], _ => rfl), .nil⟩
  have c_expected_log : C8.Cal P w K mg base 6 "expected_log" (sp_expected_log K) [] := ⟨_, _, _, [], (ok_expected_log F_expected_log T c_check_starts_logs c_check_window c_counts_of), T.g_expected_log, F_expected_log.kp, (FunD.bindsN (ps := ["rule", "window", "starts"]) F_expected_log fun _ _ _ _ _ _ us hl => match us, hl with | [_, _, _], _ => rfl), .nil⟩
  have c_E_add : C8.Met P w K mg base 3 (cE K) "add" (sp_Expected_add K) [] := ⟨_, _, _, [], T.clE, T.mE_add, (ok_Expected_add F_Expected_add T c_R_attempts c_R_offset_of), (FunD.bindsN (ps := ["self", "start", "attempt", "count"]) F_Expected_add fun _ _ _ _ _ _ us hl => match us, hl with | [_, _, _, _], _ => rfl), .nil⟩
  have c_E_next_slot : C8.Met P w K mg base 1 (cE K) "next_slot" (sp_Expected_next_slot K) [] := ⟨_, _, _, [], T.clE, T.mE_next_slot, (ok_Expected_next_slot F_Expected_next_slot T), (FunD.bindsN (ps := ["self"]) F_Expected_next_slot fun _ _ _ _ _ _ us hl => match us, hl with | [_], _ => rfl), .nil⟩
  have c_E_take : C8.Met P w K mg base 4 (cE K) "take" (sp_Expected_take K) [] := ⟨_, _, _, [], T.clE, T.mE_take, (ok_Expected_take F_Expected_take T c_E_add), (FunD.bindsN (ps := ["self", "slot"]) F_Expected_take fun _ _ _ _ _ _ us hl => match us, hl with | [_, _], _ => rfl), .nil⟩
  have c_Expected : C8.Mak P w K mg base 1 "Expected" (cE K) (sp_Expected_init K) [] := ⟨_, _, _, [], T.mkE, (ok_Expected_init F_Expected_init T), T.gE, (FunD.bindsN (ps := ["self", "rule", "window"]) F_Expected_init fun _ _ _ _ _ _ us hl => match us, hl with | [_, _, _], _ => rfl), .nil⟩
  have c_is_entry : C8.Cal P w K mg base 2 "is_entry" (sp_is_entry K) [] := ⟨_, _, _, [], (ok_is_entry F_is_entry T c_is_integer), T.g_is_entry, F_is_entry.kp, (FunD.bindsN (ps := ["window", "value"]) F_is_entry fun _ _ _ _ _ _ us hl => match us, hl with | [_, _], _ => rfl), .nil⟩
  have c_check_log : C8.Cal P w K mg base 3 "check_log" (sp_check_log K) [] := ⟨_, _, _, [], (ok_check_log F_check_log T c_is_entry), T.g_check_log, F_check_log.kp, (FunD.bindsN (ps := ["window", "log"]) F_check_log fun _ _ _ _ _ _ us hl => match us, hl with | [_, _], _ => rfl), .nil⟩
  have c_infer_starts : C8.Cal P w K mg base 5 "infer_starts" (sp_infer_starts K) [] := ⟨_, _, _, [], (ok_infer_starts F_infer_starts T c_E_add c_E_next_slot c_E_take c_Expected c_check_log c_check_window), T.g_infer_starts, F_infer_starts.kp, (FunD.bindsN (ps := ["rule", "window", "log"]) F_infer_starts fun _ _ _ _ _ _ us hl => match us, hl with | [_, _, _], _ => rfl), .nil⟩
  have c_law_cell_at : C8.Cal P w K mg base 1 "_law_cell_at" (sp_law_cell_at K) [] := ⟨_, _, _, [], (ok_law_cell_at F_law_cell_at T), T.g_law_cell_at, F_law_cell_at.kp, (FunD.bindsN (ps := ["_law_script", "_law_k"]) F_law_cell_at fun _ _ _ _ _ _ us hl => match us, hl with | [_, _], _ => rfl), .nil⟩
  have c_law_next : C8.Cal P w K mg base 1 "_law_next" (sp_law_next K) [] := ⟨_, _, _, [], (ok_law_next F_law_next T), T.g_law_next, F_law_next.kp, (FunD.bindsN (ps := ["_law_source", "_law_many"]) F_law_next fun _ _ _ _ _ _ us hl => match us, hl with | [_, _], _ => rfl), .nil⟩
  have c_law_one : C8.Cal P w K mg base 2 "_law_one" (sp_law_one K) [] := ⟨_, _, _, [], (ok_law_one F_law_one T c_law_next), T.g_law_one, F_law_one.kp, (FunD.bindsN (ps := ["_law_source", "_law_options"]) F_law_one fun _ _ _ _ _ _ us hl => match us, hl with | [_, _], _ => rfl), .nil⟩
  have c_law_source_of : C8.Cal P w K mg base 1 "_law_source_of" (sp_law_source_of K) [] := ⟨_, _, _, [], (ok_law_source_of F_law_source_of T), T.g_law_source_of, F_law_source_of.kp, (FunD.bindsN (ps := ["_law_cell"]) F_law_source_of fun _ _ _ _ _ _ us hl => match us, hl with | [_], _ => rfl), .nil⟩
  have c_remaining_log : C8.Cal P w K mg base 6 "remaining_log" (sp_remaining_log K) [] := ⟨_, _, _, [], (ok_remaining_log F_remaining_log T c_check_log c_check_starts_logs c_check_window c_counts_of), T.g_remaining_log, F_remaining_log.kp, (FunD.bindsN (ps := ["rule", "window", "log", "starts"]) F_remaining_log fun _ _ _ _ _ _ us hl => match us, hl with | [_, _, _, _], _ => rfl), .nil⟩
  exact ok_law F_law T c_Rule c_Run c_Scene c_U_attempting c_U_event c_U_outcomes c_expected_log c_infer_starts c_law_cell_at c_law_next c_law_one c_law_source_of c_remaining_log
end My
open PySem PySem.W PySem.Calls PyProof.Rows
theorem PySem.Challenge.cw_retryslots_k80_whole_logs_of_an_outage_i_holds : PySem.Challenge.rw_retryslots_k80_whole_logs_of_an_outage_i.Holds := by
  w_on; o_law
  refine HandSHeadRun.head_any (r := OpenLaw.row PySem.Challenge.rw_retryslots_k80_whole_logs_of_an_outage_i) (q := view (OpenLaw.row PySem.Challenge.rw_retryslots_k80_whole_logs_of_an_outage_i).prog [51]) (H := My.hk) (ob := My.ob) (M := 6000) (loose := My.nms) (d := HandSHeadRun.topDef (OpenLaw.row PySem.Challenge.rw_retryslots_k80_whole_logs_of_an_outage_i).prog 51) (kwd := []) My.ob_eq
    (by kernel_rfl) (fun s => by kernel_rfl) My.run (by kernel_rfl) (by kernel_rfl) (by kernel_rfl) (by rfl) (by first | assumption | decide +kernel) (by decide +kernel) ⟨rfl, rfl, rfl, rfl, rfl, by decide +kernel⟩ ?hw ?hc
  case hw => w_witness2
  case hc =>
    refine L2.walk_ofE (l := PySem.Challenge.rw_retryslots_k80_whole_logs_of_an_outage_i) (n := 63) (k := 9) (x := "_law_script") (CX := L2.CX0) rfl (by decide) (by kernel_rfl) ⟨rfl, by decide, by decide⟩ ?F (fun _ _ _ _ z => z)
    intro w mg fa h Y G hmg0
    obtain ⟨K, KX, c, ex⟩ := Y
    have hmg : mg ("law" : PySem.Str) = some (.ref fa) := by
      have e : (HandSHeadRun.topDef (OpenLaw.row PySem.Challenge.rw_retryslots_k80_whole_logs_of_an_outage_i).prog 51).name = ("law" : PySem.Str) := by kernel_rfl
      rw [← e]
      exact hmg0
    obtain ⟨fd, hb, hF⟩ := My.facts (P := (PySem.Challenge.rw_retryslots_k80_whole_logs_of_an_outage_i).prog) (w := w) KX G hmg c ex
    exact ⟨K, fd, My.sp_law K, KX, hb, fun H a ns hl _ hS => ⟨a, ns, rfl, hS, hl, fun _ => rfl⟩, hF⟩
