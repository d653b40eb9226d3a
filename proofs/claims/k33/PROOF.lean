import PyProof.Rows.All
import Wide.All
import OpenK.AllK
import Wide.FinOn
import KE.KStateDown
import KE.SortKeyHeap
import KE.KDictPairs
import Lean
import HandS.ForMost
import HandS.More
import HandS.Codes
import HandS.Conv
import HandS.Deep
import HandS.DictComp
import HandS.Strs
import HandS.Zip
import HandS.IsInst
import HandS.Walk
import HandS.Style
import HandS.Wide
import HandS.Exc
import HandS.TryOnly
import HandS.ExcOwn
import HandS.WordsExc
import HandS.Lambda
import HandS.Nested
import HandS.Defaults
import HandS.Head0
import HandS.Head1
import HandS.Head2
import HandS.HeadEnd
import HandS.HeadHook1
import HandS.HeadHook2
import HandS.HeadHook3
import HandS.HeadHook4
import HandS.HeadWalk
import PySem.Challenge.RW_fewrefresh_k33_whole_plans

set_option Elab.async false
set_option linter.all false
set_option maxRecDepth 100000
set_option maxHeartbeats 4000000
namespace Rf
open PySem PySem.Spec PyProof.Rows L2

/-! ### the text by places -/
def top (i : Nat) : Stmt := PySem.Challenge.pw_fewrefresh_k33_whole_plans.main.body.getD i (.Pass ⟨0, 0, 0, 0⟩)
abbrev s_is_integer : Stmt := top 15
abbrev N_is_integer : List Str := ["value", "low", "high"]
theorem sc_is_integer : FnScope N_is_integer ["value", "low", "high"] (C8.fnScope s_is_integer) := C8.fnScope_by (by decide +kernel)
abbrev s_is_name : Stmt := top 16
abbrev N_is_name : List Str := ["value", "sign"]
theorem sc_is_name : FnScope N_is_name ["value"] (C8.fnScope s_is_name) := C8.fnScope_by (by decide +kernel)
abbrev s_is_pair : Stmt := top 17
abbrev N_is_pair : List Str := ["value"]
theorem sc_is_pair : FnScope N_is_pair ["value"] (C8.fnScope s_is_pair) := C8.fnScope_by (by decide +kernel)
abbrev s_is_source : Stmt := top 18
abbrev N_is_source : List Str := ["name", "value"]
theorem sc_is_source : FnScope N_is_source ["name", "value"] (C8.fnScope s_is_source) := C8.fnScope_by (by decide +kernel)
abbrev s_is_term : Stmt := top 19
abbrev N_is_term : List Str := ["value"]
theorem sc_is_term : FnScope N_is_term ["value"] (C8.fnScope s_is_term) := C8.fnScope_by (by decide +kernel)
abbrev s_inputs_of : Stmt := top 20
abbrev N_inputs_of : List Str := ["formula", "factor", "name"]
theorem sc_inputs_of : FnScope N_inputs_of ["formula"] (C8.fnScope s_inputs_of) := C8.fnScope_by (by decide +kernel)
abbrev s_is_formula : Stmt := top 21
abbrev N_is_formula : List Str := ["value", "term"]
theorem sc_is_formula : FnScope N_is_formula ["value"] (C8.fnScope s_is_formula) := C8.fnScope_by (by decide +kernel)
abbrev s_m_init : Stmt := inClass (top 22) 0
abbrev N_m_init : List Str := ["self", "sources", "views", "free", "known", "name", "value", "used", "one"]
theorem sc_m_init : FnScope N_m_init ["self", "sources", "views"] (C8.fnScope s_m_init) := C8.fnScope_by (by decide +kernel)
abbrev s_m_sources : Stmt := inClass (top 22) 3
abbrev N_m_sources : List Str := ["self"]
theorem sc_m_sources : FnScope N_m_sources ["self"] (C8.fnScope s_m_sources) := C8.fnScope_by (by decide +kernel)
abbrev s_m_views : Stmt := inClass (top 22) 4
abbrev N_m_views : List Str := ["self"]
theorem sc_m_views : FnScope N_m_views ["self"] (C8.fnScope s_m_views) := C8.fnScope_by (by decide +kernel)
abbrev s_m_names : Stmt := inClass (top 22) 5
abbrev N_m_names : List Str := ["self"]
theorem sc_m_names : FnScope N_m_names ["self"] (C8.fnScope s_m_names) := C8.fnScope_by (by decide +kernel)
abbrev s_m_inputs : Stmt := inClass (top 22) 6
abbrev N_m_inputs : List Str := ["self", "name"]
theorem sc_m_inputs : FnScope N_m_inputs ["self", "name"] (C8.fnScope s_m_inputs) := C8.fnScope_by (by decide +kernel)
abbrev s_m_below : Stmt := inClass (top 22) 7
abbrev N_m_below : List Str := ["self", "name", "found", "waiting", "one"]
theorem sc_m_below : FnScope N_m_below ["self", "name"] (C8.fnScope s_m_below) := C8.fnScope_by (by decide +kernel)
abbrev s_m_price : Stmt := inClass (top 22) 8
abbrev N_m_price : List Str := ["self", "name"]
theorem sc_m_price : FnScope N_m_price ["self", "name"] (C8.fnScope s_m_price) := C8.fnScope_by (by decide +kernel)
abbrev s_is_view : Stmt := top 23
abbrev N_is_view : List Str := ["name", "value", "known", "free", "used", "one"]
theorem sc_is_view : FnScope N_is_view ["name", "value", "known", "free"] (C8.fnScope s_is_view) := C8.fnScope_by (by decide +kernel)
abbrev s_check_network : Stmt := top 24
abbrev N_check_network : List Str := ["network"]
theorem sc_check_network : FnScope N_check_network ["network"] (C8.fnScope s_check_network) := C8.fnScope_by (by decide +kernel)
abbrev s_check_horizon : Stmt := top 29
abbrev N_check_horizon : List Str := ["network", "horizon"]
theorem sc_check_horizon : FnScope N_check_horizon ["network", "horizon"] (C8.fnScope s_check_horizon) := C8.fnScope_by (by decide +kernel)
abbrev s_refresh_key : Stmt := top 30
abbrev N_refresh_key : List Str := ["network", "refresh"]
theorem sc_refresh_key : FnScope N_refresh_key ["network", "refresh"] (C8.fnScope s_refresh_key) := C8.fnScope_by (by decide +kernel)
abbrev s_is_refresh : Stmt := top 31
abbrev N_is_refresh : List Str := ["network", "horizon", "value"]
theorem sc_is_refresh : FnScope N_is_refresh ["network", "horizon", "value"] (C8.fnScope s_is_refresh) := C8.fnScope_by (by decide +kernel)
abbrev s_check_plan : Stmt := top 32
abbrev N_check_plan : List Str := ["network", "horizon", "plan", "keys", "one", "other"]
theorem sc_check_plan : FnScope N_check_plan ["network", "horizon", "plan"] (C8.fnScope s_check_plan) := C8.fnScope_by (by decide +kernel)
abbrev s_is_query : Stmt := top 33
abbrev N_is_query : List Str := ["network", "horizon", "value"]
theorem sc_is_query : FnScope N_is_query ["network", "horizon", "value"] (C8.fnScope s_is_query) := C8.fnScope_by (by decide +kernel)
abbrev s_check_query : Stmt := top 34
abbrev N_check_query : List Str := ["network", "horizon", "query"]
theorem sc_check_query : FnScope N_check_query ["network", "horizon", "query"] (C8.fnScope s_check_query) := C8.fnScope_by (by decide +kernel)
abbrev s_check_queries : Stmt := top 35
abbrev N_check_queries : List Str := ["network", "horizon", "queries", "query"]
theorem sc_check_queries : FnScope N_check_queries ["network", "horizon", "queries"] (C8.fnScope s_check_queries) := C8.fnScope_by (by decide +kernel)
abbrev s_stamps_of : Stmt := top 37
abbrev N_stamps_of : List Str := ["network", "plan", "tick", "found", "name", "at", "one"]
theorem sc_stamps_of : FnScope N_stamps_of ["network", "plan", "tick"] (C8.fnScope s_stamps_of) := C8.fnScope_by (by decide +kernel)
abbrev s_joined : Stmt := top 38
abbrev N_joined : List Str := ["parts", "found", "part"]
theorem sc_joined : FnScope N_joined ["parts"] (C8.fnScope s_joined) := C8.fnScope_by (by decide +kernel)
abbrev s_ages_of : Stmt := top 39
abbrev N_ages_of : List Str := ["network", "plan", "query", "stamps", "name"]
theorem sc_ages_of : FnScope N_ages_of ["network", "plan", "query"] (C8.fnScope s_ages_of) := C8.fnScope_by (by decide +kernel)
abbrev s_bounds_of : Stmt := top 40
abbrev N_bounds_of : List Str := ["network", "plan", "query", "old", "found", "views", "nodes", "name"]
theorem sc_bounds_of : FnScope N_bounds_of ["network", "plan", "query"] (C8.fnScope s_bounds_of) := C8.fnScope_by (by decide +kernel)
abbrev s_combined : Stmt := top 41
abbrev N_combined : List Str := ["formula", "errors", "factor", "name"]
theorem sc_combined : FnScope N_combined ["formula", "errors"] (C8.fnScope s_combined) := C8.fnScope_by (by decide +kernel)
abbrev s_worst_of : Stmt := top 42
abbrev N_worst_of : List Str := ["network", "plan", "query"]
theorem sc_worst_of : FnScope N_worst_of ["network", "plan", "query"] (C8.fnScope s_worst_of) := C8.fnScope_by (by decide +kernel)
abbrev s_cost_of : Stmt := top 44
abbrev N_cost_of : List Str := ["network", "refreshes", "tick", "name"]
theorem sc_cost_of : FnScope N_cost_of ["network", "refreshes"] (C8.fnScope s_cost_of) := C8.fnScope_by (by decide +kernel)
abbrev s_cost : Stmt := top 45
abbrev N_cost : List Str := ["network", "horizon", "plan"]
theorem sc_cost : FnScope N_cost ["network", "horizon", "plan"] (C8.fnScope s_cost) := C8.fnScope_by (by decide +kernel)
abbrev s_is_enough : Stmt := top 46
abbrev N_is_enough : List Str := ["network", "plan", "queries", "query"]
theorem sc_is_enough : FnScope N_is_enough ["network", "plan", "queries"] (C8.fnScope s_is_enough) := C8.fnScope_by (by decide +kernel)
abbrev s_check_asked : Stmt := top 47
abbrev N_check_asked : List Str := ["network", "horizon", "plan", "queries"]
theorem sc_check_asked : FnScope N_check_asked ["network", "horizon", "plan", "queries"] (C8.fnScope s_check_asked) := C8.fnScope_by (by decide +kernel)
abbrev s_is_sufficient : Stmt := top 48
abbrev N_is_sufficient : List Str := ["network", "horizon", "plan", "queries"]
theorem sc_is_sufficient : FnScope N_is_sufficient ["network", "horizon", "plan", "queries"] (C8.fnScope s_is_sufficient) := C8.fnScope_by (by decide +kernel)
abbrev s_check_sufficient : Stmt := top 49
abbrev N_check_sufficient : List Str := ["network", "horizon", "plan", "queries"]
theorem sc_check_sufficient : FnScope N_check_sufficient ["network", "horizon", "plan", "queries"] (C8.fnScope s_check_sufficient) := C8.fnScope_by (by decide +kernel)
abbrev s_without : Stmt := top 50
abbrev N_without : List Str := ["plan", "refresh", "one"]
theorem sc_without : FnScope N_without ["plan", "refresh"] (C8.fnScope s_without) := C8.fnScope_by (by decide +kernel)
abbrev s_slacks : Stmt := top 51
abbrev N_slacks : List Str := ["network", "horizon", "plan", "queries", "query"]
theorem sc_slacks : FnScope N_slacks ["network", "horizon", "plan", "queries"] (C8.fnScope s_slacks) := C8.fnScope_by (by decide +kernel)
abbrev s_redundant : Stmt := top 52
abbrev N_redundant : List Str := ["network", "horizon", "plan", "queries", "one"]
theorem sc_redundant : FnScope N_redundant ["network", "horizon", "plan", "queries"] (C8.fnScope s_redundant) := C8.fnScope_by (by decide +kernel)
abbrev s_trimmed : Stmt := top 53
abbrev N_trimmed : List Str := ["network", "horizon", "plan", "queries", "found", "one"]
theorem sc_trimmed : FnScope N_trimmed ["network", "horizon", "plan", "queries"] (C8.fnScope s_trimmed) := C8.fnScope_by (by decide +kernel)
abbrev s_sorted_plan : Stmt := top 54
abbrev N_sorted_plan : List Str := ["network", "refreshes"]
theorem sc_sorted_plan : FnScope N_sorted_plan ["network", "refreshes"] (C8.fnScope s_sorted_plan) := C8.fnScope_by (by decide +kernel)
abbrev s_delayed : Stmt := top 55
abbrev N_delayed : List Str := ["network", "horizon", "plan", "queries", "found", "tick", "name", "later", "moved"]
theorem sc_delayed : FnScope N_delayed ["network", "horizon", "plan", "queries"] (C8.fnScope s_delayed) := C8.fnScope_by (by decide +kernel)
abbrev s_l_cell_at : Stmt := top 57
abbrev N_l_cell_at : List Str := ["_law_script", "_law_k"]
theorem sc_l_cell_at : FnScope N_l_cell_at ["_law_script", "_law_k"] (C8.fnScope s_l_cell_at) := C8.fnScope_by (by decide +kernel)
abbrev s_l_draw : Stmt := top 58
abbrev N_l_draw : List Str := ["_law_cell", "_law_k", "_law_below", "_law_primes"]
theorem sc_l_draw : FnScope N_l_draw ["_law_cell", "_law_k", "_law_below"] (C8.fnScope s_l_draw) := C8.fnScope_by (by decide +kernel)
abbrev s_l_number : Stmt := top 59
abbrev N_l_number : List Str := ["_law_cell", "_law_k", "_law_below", "_law_power", "_law_times", "_law_remains", "_law_small"]
theorem sc_l_number : FnScope N_l_number ["_law_cell", "_law_k", "_law_below"] (C8.fnScope s_l_number) := C8.fnScope_by (by decide +kernel)
abbrev s_l_next : Stmt := top 60
abbrev N_l_next : List Str := ["_law_state", "_law_below", "_law_at", "_law_cell"]
theorem sc_l_next : FnScope N_l_next ["_law_state", "_law_below"] (C8.fnScope s_l_next) := C8.fnScope_by (by decide +kernel)
abbrev s_l_pick : Stmt := top 61
abbrev N_l_pick : List Str := ["_law_state", "_law_things"]
theorem sc_l_pick : FnScope N_l_pick ["_law_state", "_law_things"] (C8.fnScope s_l_pick) := C8.fnScope_by (by decide +kernel)
abbrev s_l_network : Stmt := top 62
abbrev N_l_network : List Str := ["_law_state", "_law_most", "_law_sources", "_law_views", "_law_name", "_law_free", "_law_used", "_law_word", "_law_inputs_here", "_law_one"]
theorem sc_l_network : FnScope N_l_network ["_law_state", "_law_most"] (C8.fnScope s_l_network) := C8.fnScope_by (by decide +kernel)
abbrev s_l_inputs : Stmt := top 63
abbrev N_l_inputs : List Str := ["_law_parts", "_law_name", "_law_word", "_law_inputs_here", "_law_one"]
theorem sc_l_inputs : FnScope N_l_inputs ["_law_parts", "_law_name"] (C8.fnScope s_l_inputs) := C8.fnScope_by (by decide +kernel)
abbrev s_l_under : Stmt := top 64
abbrev N_l_under : List Str := ["_law_parts", "_law_name", "_law_found", "_law_one"]
theorem sc_l_under : FnScope N_l_under ["_law_parts", "_law_name"] (C8.fnScope s_l_under) := C8.fnScope_by (by decide +kernel)
abbrev s_l_plan : Stmt := top 69
abbrev N_l_plan : List Str := ["_law_state", "_law_parts", "_law_horizon", "_law_luck", "_law_found", "_law_tick", "_law_name"]
theorem sc_l_plan : FnScope N_l_plan ["_law_state", "_law_parts", "_law_horizon", "_law_luck"] (C8.fnScope s_l_plan) := C8.fnScope_by (by decide +kernel)
abbrev s_l_query : Stmt := top 70
abbrev N_l_query : List Str := ["_law_state", "_law_parts", "_law_horizon", "_law_name", "_law_tick"]
theorem sc_l_query : FnScope N_l_query ["_law_state", "_law_parts", "_law_horizon"] (C8.fnScope s_l_query) := C8.fnScope_by (by decide +kernel)
abbrev s_l_ages : Stmt := top 71
abbrev N_l_ages : List Str := ["_law_parts", "_law_plan_here", "_law_query_here", "_law_stamps", "_law_name", "_law_tick", "_law_late", "_law_one"]
theorem sc_l_ages : FnScope N_l_ages ["_law_parts", "_law_plan_here", "_law_query_here"] (C8.fnScope s_l_ages) := C8.fnScope_by (by decide +kernel)
abbrev s_l_error : Stmt := top 72
abbrev N_l_error : List Str := ["_law_parts", "_law_spans", "_law_name", "_law_word", "_law_inputs_here", "_law_factor", "_law_one"]
theorem sc_l_error : FnScope N_l_error ["_law_parts", "_law_spans", "_law_name"] (C8.fnScope s_l_error) := C8.fnScope_by (by decide +kernel)
abbrev s_l_worst : Stmt := top 73
abbrev N_l_worst : List Str := ["_law_parts", "_law_plan_here", "_law_query_here"]
theorem sc_l_worst : FnScope N_l_worst ["_law_parts", "_law_plan_here", "_law_query_here"] (C8.fnScope s_l_worst) := C8.fnScope_by (by decide +kernel)
abbrev s_l_enough : Stmt := top 74
abbrev N_l_enough : List Str := ["_law_parts", "_law_plan_here", "_law_queries", "_law_query_here"]
theorem sc_l_enough : FnScope N_l_enough ["_law_parts", "_law_plan_here", "_law_queries"] (C8.fnScope s_l_enough) := C8.fnScope_by (by decide +kernel)
abbrev s_l_order : Stmt := top 75
abbrev N_l_order : List Str := ["_law_parts", "_law_refreshes", "_law_names"]
theorem sc_l_order : FnScope N_l_order ["_law_parts", "_law_refreshes"] (C8.fnScope s_l_order) := C8.fnScope_by (by decide +kernel)
abbrev s_l_trimmed : Stmt := top 76
abbrev N_l_trimmed : List Str := ["_law_parts", "_law_plan_here", "_law_queries", "_law_found", "_law_refresh", "_law_late", "_law_one"]
theorem sc_l_trimmed : FnScope N_l_trimmed ["_law_parts", "_law_plan_here", "_law_queries"] (C8.fnScope s_l_trimmed) := C8.fnScope_by (by decide +kernel)
abbrev s_l_delayed : Stmt := top 77
abbrev N_l_delayed : List Str := ["_law_parts", "_law_horizon", "_law_plan_here", "_law_queries", "_law_found", "_law_tick", "_law_name", "_law_good", "_law_late", "_law_moved", "_law_one"]
theorem sc_l_delayed : FnScope N_l_delayed ["_law_parts", "_law_horizon", "_law_plan_here", "_law_queries"] (C8.fnScope s_l_delayed) := C8.fnScope_by (by decide +kernel)
abbrev s_l_refused : Stmt := top 78
abbrev N_l_refused : List Str := ["_law_ask"]
theorem sc_l_refused : FnScope N_l_refused ["_law_ask"] (C8.fnScope s_l_refused) := C8.fnScope_by (by decide +kernel)
abbrev s_l_one_right : Stmt := top 79
abbrev N_l_one_right : List Str := ["_law_state", "_law_parts", "_law_horizon", "_law_network_here", "_law_plan_here", "_law_queries", "_law_prices", "_law_has_all", "_law_asks", "_law_room", "_law_spare", "_law_refresh", "_law_turn", "_law_name", "_law_tick", "_law_ask", "_law_query_here", "_law_one"]
theorem sc_l_one_right : FnScope N_l_one_right ["_law_state"] (C8.fnScope s_l_one_right) := C8.fnScope_by (by decide +kernel)
abbrev s_law : Stmt := top 80
abbrev N_law : List Str := ["_law_script", "_law_by"]
theorem sc_law : FnScope N_law ["_law_script"] (C8.fnScope s_law) := C8.fnScope_by (by decide +kernel)

/-! ### plain data -/
section plain
variable {α β : Type}
/-- what stands under a name -/
def look (l : List (Str × β)) (n : Str) : Option β := (l.find? fun p => decide (p.1 = n)).map (·.2)
theorem look_nil {n : Str} : look ([] : List (Str × β)) n = none := rfl
theorem look_pos {p : Str × β} {r : List (Str × β)} {n : Str} (e : p.1 = n) : look (p :: r) n = some p.2 := by
  unfold look
  rw [List.find?_cons_of_pos (by simpa using e)]
  rfl
theorem look_neg {p : Str × β} {r : List (Str × β)} {n : Str} (e : ¬ p.1 = n) : look (p :: r) n = look r n := by
  unfold look
  rw [List.find?_cons_of_neg (by simpa using e)]
theorem look_mem : ∀ {l : List (Str × β)} {n : Str} {b : β}, look l n = some b → (n, b) ∈ l
  | [], _, _, h => by cases h
  | p :: r, n, b, h => by
    by_cases e : p.1 = n
    · rw [look_pos e] at h
      cases h
      rw [← e]
      exact List.mem_cons_self
    · rw [look_neg e] at h
      exact List.mem_cons_of_mem _ (look_mem h)
theorem look_none : ∀ {l : List (Str × β)} {n : Str}, look l n = none ↔ n ∉ l.map (·.1)
  | [], _ => by simp [look_nil]
  | p :: r, n => by
    by_cases e : p.1 = n
    · rw [look_pos e]
      simp [e]
    · rw [look_neg e, look_none]
      simp [e]
      intro _ z
      exact e z.symm
theorem look_isSome {l : List (Str × β)} {n : Str} : (look l n).isSome = true ↔ n ∈ l.map (·.1) := by
  cases h : look l n with
  | none => simp [look_none.mp h]
  | some b => simp; exact ⟨b, look_mem h⟩
theorem look_append {l r : List (Str × β)} {n : Str} : look (l ++ r) n = (look l n).or (look r n) := by
  induction l with
  | nil => simp [look_nil]
  | cons p l ih =>
    by_cases e : p.1 = n
    · rw [List.cons_append, look_pos e, look_pos e]; rfl
    · rw [List.cons_append, look_neg e, look_neg e, ih]
theorem look_nodup : ∀ {l : List (Str × β)} {n : Str} {b : β}, (l.map (·.1)).Nodup → (n, b) ∈ l → look l n = some b
  | [], _, _, _, h => by cases h
  | p :: r, n, b, nd, h => by
    rw [List.map_cons, List.nodup_cons] at nd
    rcases List.mem_cons.mp h with rfl | h
    · exact look_pos rfl
    · have : ¬ p.1 = n := fun e => nd.1 (by rw [e]; exact List.mem_map.mpr ⟨_, h, rfl⟩)
      rw [look_neg this]
      exact look_nodup nd.2 h
end plain

/-- a formula: its word, its inputs with their factors (a factor of min and max says nothing) -/
structure Frm where
  word : Str
  ins : List (Int × Str)
/-- sources (name, drift, cost) and views (name, formula, cost), in order -/
structure Net where
  src : List (Str × Int × Int)
  vws : List (Str × Frm × Int)
def Frm.names (f : Frm) : List Str := f.ins.map (·.2)
def Net.names (N : Net) : List Str := N.src.map (·.1) ++ N.vws.map (·.1)
def Net.inputs (N : Net) (n : Str) : List Str := match look N.vws n with
  | some f => f.1.names
  | none => []
def Net.isSrc (N : Net) (n : Str) : Bool := (look N.src n).isSome
abbrev Plan := List (Int × Str)
abbrev Query := Int × Str × Int
def lettersS : Str := "abcdefghijklmnopqrstuvwxyz"
/-- a name -/
structure Good (x : Str) : Prop where
  lo : 1 ≤ x.length
  hi : x.length ≤ 8
  sg : ∀ c ∈ x.cps.toList, c ∈ lettersS.cps.toList
  ok : PyData.canLay0 (.str x) = true
structure SrcOk (s : Str × Int × Int) : Prop where
  nm : Good s.1
  d0 : 0 ≤ s.2.1
  d1 : s.2.1 ≤ 20
  c0 : 1 ≤ s.2.2
  c1 : s.2.2 ≤ 9
structure FrmOk (f : Frm) : Prop where
  wd : f.word = "sum" ∨ f.word = "min" ∨ f.word = "max"
  lo : 1 ≤ f.ins.length
  hi : f.ins.length ≤ 4
  fa : ∀ t ∈ f.ins, -5 ≤ t.1 ∧ t.1 ≤ 5 ∧ t.1 ≠ 0
structure VwOk (known free : List Str) (v : Str × Frm × Int) : Prop where
  nm : Good v.1
  nk : v.1 ∉ known
  fr : FrmOk v.2.1
  us : ∀ x ∈ v.2.1.names, x ∈ free
  nd : v.2.1.names.Nodup
  c0 : 1 ≤ v.2.2
  c1 : v.2.2 ≤ 9
/-- the names that are no inputs yet, behind a view -/
def freeBy (free : List Str) (v : Str × Frm × Int) : List Str := free.filter (fun x => decide (x ∉ v.2.1.names)) ++ [v.1]
def VwsOk : List Str → List Str → List (Str × Frm × Int) → Prop
  | _, _, [] => True
  | known, free, v :: r => VwOk known free v ∧ VwsOk (known ++ [v.1]) (freeBy free v) r
structure NetOk (N : Net) : Prop where
  s1 : 1 ≤ N.src.length
  s5 : N.src.length + N.vws.length ≤ 5
  so : ∀ s ∈ N.src, SrcOk s
  sn : (N.src.map (·.1)).Nodup
  vo : VwsOk (N.src.map (·.1)) (N.src.map (·.1)) N.vws

def Net.price (N : Net) (n : Str) : Option Int := match look N.src n with
  | some s => some s.2
  | none => match look N.vws n with
    | some f => some f.2
    | none => none
theorem VwsOk.fr : ∀ {known free : List Str} {l : List (Str × Frm × Int)}, VwsOk known free l → ∀ v ∈ l, FrmOk v.2.1
  | _, _, [], _, v, h => by cases h
  | _, _, u :: r, ok, v, h => by
    rcases List.mem_cons.mp h with rfl | h
    · exact ok.1.fr
    · exact VwsOk.fr ok.2 v h
theorem NetOk.ins {N : Net} (ok : NetOk N) {n : Str} {f : Frm × Int} (e : look N.vws n = some f) : f.1.ins.length ≤ 1000 := by
  have := (ok.vo.fr _ (look_mem e)).hi
  show f.1.ins.length ≤ 1000
  exact Nat.le_trans this (by decide)

/-! ### heaps -/
abbrev Tb := List (Addr × Str)
def noTbl : HO → Bool
  | .tbl _ => false
  | _ => true
/-- all that stood stands, but for the tables of code objects, which may have grown -/
structure Ex (T : Tb) (H H' : Hp) : Prop where
  ob : ∀ b o, H b = some o → noTbl o = true → H' b = some o
  al : ∀ b, H' b = none → H b = none
  tb : LamX.Tabs T H → LamX.Tabs T H'
/-- the tuples stand -/
def Tu (H H' : Hp) : Prop := ∀ b xs, H b = some (.tup xs) → H' b = some (.tup xs)
section heaps
variable {T : Tb} {H H1 H2 H' : Hp} {a p : Addr} {o : HO}
theorem Ex.refl (H : Hp) : Ex T H H := ⟨fun _ _ h _ => h, fun _ h => h, fun h => h⟩
theorem Ex.trans (a : Ex T H H1) (b : Ex T H1 H2) : Ex T H H2 := ⟨fun c o h n => b.ob c o (a.ob c o h n) n, fun c h => a.al c (b.al c h), fun h => b.tb (a.tb h)⟩
theorem Ex.at (e : Ex T H H') (h : H a = some o) (n : noTbl o = true := by rfl) : H' a = some o := e.ob a o h n
theorem Ex.tu (e : Ex T H H') : Tu H H' := fun b xs h => e.at h
theorem Ex.free (e : Ex T H H') (h : H' p = none) : H p = none := e.al p h
theorem Ex.new (h : H p = none) : Ex T H (upd H p o) := by
  have k : ∀ b u, H b = some u → upd H p o b = some u := fun b u e => by rw [upd_ne (ne_of_none e h)]; exact e
  refine ⟨fun b u e _ => k b u e, fun b e => ?_, fun t => t.ext k⟩
  by_cases q : b = p
  · rw [q]; exact h
  · rw [upd_ne q] at e; exact e
theorem Ex.sqL {K : PySem.W.Frag} {xs : List V} (e : Ex T H H') (h : SqL K H a xs) : SqL K H' a xs := by
  rcases h with (h | ⟨o, h⟩) | h
  · exact .inl (.inl (e.at h))
  · exact .inl (.inr ⟨o, e.at h⟩)
  · exact .inr h
theorem Ex.sqT {K : PySem.W.Frag} {xs : List V} (e : Ex T H H') (h : SqT K H a xs) : SqT K H' a xs := by
  rcases h with (h | ⟨o, h⟩) | h
  · exact .inl (.inl (e.at h))
  · exact .inl (.inr ⟨o, e.at h⟩)
  · exact .inr h
/-- what may be written here: a list, a dict, an instance -/
def Wr : HO → Bool
  | .lst _ => true
  | .dK _ => true
  | .ins _ _ _ => true
  | .frz _ _ => true
  | _ => false
theorem Ex.set {u : HO} (h : H p = some u) (w : Wr u = true) (n : noTbl o = true := by rfl) : (∀ b x, b ≠ p → H b = some x → upd H p o b = some x) ∧ (LamX.Tabs T H → LamX.Tabs T (upd H p o)) := by
  refine ⟨fun b x hb e => by rw [upd_ne hb]; exact e, fun t q hq => ?_⟩
  obtain ⟨ps, h1, h2, h3⟩ := t q hq
  have n1 : q.1 ≠ p := fun z => by
    rw [z, h] at h1
    cases h1
    cases w
  refine ⟨ps, by rw [upd_ne n1]; exact h1, h2, fun pos cv hc => ?_⟩
  obtain ⟨c, e1, e2⟩ := h3 pos cv hc
  have n2 : c ≠ p := fun z => by
    rw [z, h] at e2
    unfold LamX.CodeO at e2
    cases e2
    cases w
  exact ⟨c, e1, by rw [upd_ne n2]; exact e2⟩
/-- an object that was not there at first is written -/
theorem Ex.mut {u : HO} (e : Ex T H H') (h0 : H p = none) (h : H' p = some u) (w : Wr u = true := by rfl) (n : noTbl o = true := by rfl) : Ex T H (upd H' p o) := by
  obtain ⟨k1, k2⟩ := Ex.set (T := T) (o := o) h w n
  refine ⟨fun b x q m => k1 b x (ne_of_none q h0) (e.ob b x q m), fun b q => ?_, fun t => k2 (e.tb t)⟩
  by_cases z : b = p
  · rw [z]; exact h0
  · rw [upd_ne z] at q; exact e.al b q
theorem Tu.refl (H : Hp) : Tu H H := fun _ _ h => h
theorem Tu.trans (a : Tu H H1) (b : Tu H1 H2) : Tu H H2 := fun c xs h => b c xs (a c xs h)
theorem Tu.set {u : HO} (h : H p = some u) (w : Wr u = true := by rfl) : Tu H (upd H p o) := fun b xs e => by
  rw [upd_ne (fun z => by rw [z, h] at e; cases e; cases w)]
  exact e
theorem Tu.new (h : H p = none) : Tu H (upd H p o) := fun b xs e => by
  rw [upd_ne (ne_of_none e h)]
  exact e
end heaps

/-! ### data in the heap -/
theorem Paired.imp {α β : Type} {F G : α → β → Prop} {l : List α} {r : List β} (h : Paired F l r) (k : ∀ a b, F a b → G a b) : Paired G l r := L2.Paired.mapP h k
theorem Paired.appendP {α β : Type} {F : α → β → Prop} : ∀ {l l' : List α} {r r' : List β}, Paired F l r → Paired F l' r' → Paired F (l ++ l') (r ++ r')
  | _, _, _, _, .nil, h => h
  | _, _, _, _, .cons a b, h => .cons a (Paired.appendP b h)
theorem Paired.at {α β : Type} {F : α → β → Prop} : ∀ {l : List α} {r : List β} {i : Nat} {b : β}, Paired F l r → r[i]? = some b → ∃ a, l[i]? = some a ∧ F a b
  | _, _, _, _, .nil, e => by simp at e
  | _, _, 0, _, .cons h _, e => by
    simp at e
    subst e
    exact ⟨_, rfl, h⟩
  | _, _, i + 1, b, .cons _ r, e => by
    obtain ⟨a, h1, h2⟩ := Paired.at (i := i) (b := b) r (by simpa using e)
    exact ⟨a, by simpa using h1, h2⟩
theorem Paired.map1 {α β γ : Type} {F : α → β → Prop} {G : γ → β → Prop} {f : α → γ} (k : ∀ a b, F a b → G (f a) b) : ∀ {l : List α} {r : List β}, Paired F l r → Paired G (l.map f) r
  | _, _, .nil => .nil
  | _, _, .cons a b => .cons (k _ _ a) (Paired.map1 k b)
/-- values that are told by a function -/
theorem Paired.fn {α β : Type} {f : β → α} : ∀ {l : List α} {r : List β}, Paired (fun a b => a = f b) l r → l = r.map f
  | _, _, .nil => rfl
  | _, _, .cons a b => by rw [a, Paired.fn b] <;> rfl
theorem Paired.of_fn {α β : Type} {f : β → α} : ∀ (r : List β), Paired (fun a b => a = f b) (r.map f) r
  | [] => .nil
  | b :: r => .cons rfl (Paired.of_fn r)
/-- a pair of an int and a text -/
def RowAt (H : Hp) (x : V) (r : Int × Str) : Prop := ∃ t, x = .ref t ∧ H t = some (.tup [.int r.1, .str r.2])
def Rows (H : Hp) (xs : List V) (rs : List (Int × Str)) : Prop := Paired (RowAt H) xs rs
/-- the inputs' tuple -/
def InsAt (H : Hp) (f : Frm) (u : V) : Prop := ∃ p xs, u = .ref p ∧ H p = some (.tup xs) ∧ ((f.word = "sum" ∧ Rows H xs f.ins) ∨ (f.word ≠ "sum" ∧ xs = f.names.map V.str))
def FrmAt (H : Hp) (v : V) (f : Frm) : Prop := ∃ p u, v = .ref p ∧ H p = some (.tup [.str f.word, u]) ∧ InsAt H f u
def VwAt (H : Hp) (v : V) (f : Frm × Int) : Prop := ∃ p u, v = .ref p ∧ H p = some (.tup [u, .int f.2]) ∧ FrmAt H u f.1
def SrcAt (H : Hp) (v : V) (s : Int × Int) : Prop := ∃ p, v = .ref p ∧ H p = some (.tup [.int s.1, .int s.2])
def QryAt (H : Hp) (v : V) (q : Query) : Prop := ∃ p, v = .ref p ∧ H p = some (.tup [.int q.1, .str q.2.1, .int q.2.2])
/-- a dict with texts as keys -/
def DctAt {β : Type} (R : V → β → Prop) (kvs : List (Key × V)) (l : List (Str × β)) : Prop := Paired (fun (kv : Key × V) (s : Str × β) => kv.1 = Sum.inr s.1 ∧ R kv.2 s.2) kvs l
def SrcD (H : Hp) (d : Addr) (l : List (Str × Int × Int)) : Prop := ∃ kvs, H d = some (.dK kvs) ∧ DctAt (SrcAt H) kvs l
def VwD (H : Hp) (d : Addr) (l : List (Str × Frm × Int)) : Prop := ∃ kvs, H d = some (.dK kvs) ∧ DctAt (VwAt H) kvs l
/-- a list or a tuple -/
def SeqIs (H : Hp) (p : Addr) (xs : List V) : Prop := H p = some (.lst xs) ∨ H p = some (.tup xs)
def PlanAt (H : Hp) (v : V) (pl : Plan) : Prop := ∃ p xs, v = .ref p ∧ SeqIs H p xs ∧ Rows H xs pl
def QrsAt (H : Hp) (v : V) (qs : List Query) : Prop := ∃ p xs, v = .ref p ∧ SeqIs H p xs ∧ Paired (QryAt H) xs qs
/-- the network's instance -/
def NetAt (C : Addr) (H : Hp) (v : V) (N : Net) : Prop := ∃ p dx fs d1 d2, v = .ref p ∧ H p = some (.ins C dx fs) ∧ fs.lookup ("springs" : Str) = some (.ref d1) ∧ fs.lookup ("derived" : Str) = some (.ref d2) ∧
  (∀ m ∈ (["sources", "views", "names", "inputs", "below", "price"] : List Str), fs.lookup m = none) ∧ SrcD H d1 N.src ∧ VwD H d2 N.vws
/-- the law's pair of dicts -/
def PartsAt (H : Hp) (v : V) (N : Net) : Prop := ∃ p d1 d2, v = .ref p ∧ H p = some (.tup [.ref d1, .ref d2]) ∧ SrcD H d1 N.src ∧ VwD H d2 N.vws
section data
variable {T : Tb} {H H' : Hp} {v : V}
theorem RowAt.tu {r : Int × Str} (e : Tu H H') (h : RowAt H v r) : RowAt H' v r := let ⟨t, a, b⟩ := h; ⟨t, a, e _ _ b⟩
theorem Rows.tu {xs : List V} {rs : List (Int × Str)} (e : Tu H H') (h : Rows H xs rs) : Rows H' xs rs := Paired.imp h fun _ _ k => k.tu e
theorem InsAt.tu {f : Frm} (e : Tu H H') (h : InsAt H f v) : InsAt H' f v := by
  obtain ⟨p, xs, a, b, c⟩ := h
  refine ⟨p, xs, a, e _ _ b, ?_⟩
  rcases c with ⟨c, d⟩ | c
  · exact .inl ⟨c, Rows.tu e d⟩
  · exact .inr c
theorem FrmAt.tu {f : Frm} (e : Tu H H') (h : FrmAt H v f) : FrmAt H' v f := let ⟨p, u, a, b, c⟩ := h; ⟨p, u, a, e _ _ b, c.tu e⟩
theorem VwAt.tu {f : Frm × Int} (e : Tu H H') (h : VwAt H v f) : VwAt H' v f := let ⟨p, u, a, b, c⟩ := h; ⟨p, u, a, e _ _ b, c.tu e⟩
theorem SrcAt.tu {f : Int × Int} (e : Tu H H') (h : SrcAt H v f) : SrcAt H' v f := let ⟨p, a, b⟩ := h; ⟨p, a, e _ _ b⟩
theorem QryAt.tu {f : Query} (e : Tu H H') (h : QryAt H v f) : QryAt H' v f := let ⟨p, a, b⟩ := h; ⟨p, a, e _ _ b⟩
theorem DctAt.imp {β : Type} {R R' : V → β → Prop} {kvs : List (Key × V)} {l : List (Str × β)} (h : DctAt R kvs l) (k : ∀ a b, R a b → R' a b) : DctAt R' kvs l := Paired.imp h fun _ _ z => ⟨z.1, k _ _ z.2⟩
theorem SrcD.ex {d : Addr} {l : List (Str × Int × Int)} (e : Ex T H H') (h : SrcD H d l) : SrcD H' d l := let ⟨kvs, a, b⟩ := h; ⟨kvs, e.at a, DctAt.imp b fun _ _ z => z.tu e.tu⟩
theorem VwD.ex {d : Addr} {l : List (Str × Frm × Int)} (e : Ex T H H') (h : VwD H d l) : VwD H' d l := let ⟨kvs, a, b⟩ := h; ⟨kvs, e.at a, DctAt.imp b fun _ _ z => z.tu e.tu⟩
theorem SeqIs.ex {p : Addr} {xs : List V} (e : Ex T H H') (h : SeqIs H p xs) : SeqIs H' p xs := h.elim (fun z => .inl (e.at z)) fun z => .inr (e.at z)
theorem PlanAt.ex {pl : Plan} (e : Ex T H H') (h : PlanAt H v pl) : PlanAt H' v pl := let ⟨p, xs, a, b, c⟩ := h; ⟨p, xs, a, b.ex e, Rows.tu e.tu c⟩
theorem QrsAt.ex {pl : List Query} (e : Ex T H H') (h : QrsAt H v pl) : QrsAt H' v pl := let ⟨p, xs, a, b, c⟩ := h; ⟨p, xs, a, b.ex e, Paired.imp c fun _ _ z => z.tu e.tu⟩
theorem NetAt.ex {C : Addr} {N : Net} (e : Ex T H H') (h : NetAt C H v N) : NetAt C H' v N := let ⟨p, dx, fs, d1, d2, a, b, c, d, f, g, i⟩ := h; ⟨p, dx, fs, d1, d2, a, e.at b, c, d, f, g.ex e, i.ex e⟩
theorem NetAt.un {C : Addr} {N : Net} (h : NetAt C H v N) : ∃ p dx fs d1 d2, v = .ref p ∧ H p = some (.ins C dx fs) ∧ fs.lookup ("springs" : Str) = some (.ref d1) ∧ fs.lookup ("derived" : Str) = some (.ref d2) ∧ SrcD H d1 N.src ∧ VwD H d2 N.vws ∧
    fs.lookup ("sources" : Str) = Option.none ∧ fs.lookup ("views" : Str) = Option.none ∧ fs.lookup ("names" : Str) = Option.none ∧ fs.lookup ("inputs" : Str) = Option.none ∧ fs.lookup ("below" : Str) = Option.none ∧ fs.lookup ("price" : Str) = Option.none := by
  obtain ⟨p, dx, fs, d1, d2, a, b, c, d, m, f, g⟩ := h
  exact ⟨p, dx, fs, d1, d2, a, b, c, d, f, g, m _ (by simp), m _ (by simp), m _ (by simp), m _ (by simp), m _ (by simp), m _ (by simp)⟩
theorem PartsAt.ex {N : Net} (e : Ex T H H') (h : PartsAt H v N) : PartsAt H' v N := let ⟨p, d1, d2, a, b, c, d⟩ := h; ⟨p, d1, d2, a, e.at b, c.ex e, d.ex e⟩
theorem DctAt.no {β : Type} {R : V → β → Prop} : ∀ {kvs : List (Key × V)} {l : List (Str × β)} {n : Str}, DctAt R kvs l → look l n = none → valV kvs (Sum.inr n) = none
  | _, _, _, .nil, _ => rfl
  | _, _, n, .cons (a := kv) (b := s) h r, e => by
    by_cases q : s.1 = n
    · rw [look_pos q] at e
      cases e
    · rw [look_neg q] at e
      rw [valV_neg (fun z => q (by rw [h.1] at z; exact Sum.inr.inj z))]
      exact DctAt.no r e
theorem DctAt.yes {β : Type} {R : V → β → Prop} : ∀ {kvs : List (Key × V)} {l : List (Str × β)} {n : Str} {b : β}, DctAt R kvs l → look l n = some b → ∃ v, valV kvs (Sum.inr n) = some v ∧ R v b
  | _, _, _, _, .nil, e => by cases e
  | _, _, n, b, .cons (a := kv) (b := s) h r, e => by
    by_cases q : s.1 = n
    · rw [look_pos q] at e
      cases e
      exact ⟨_, valV_pos (by rw [h.1, q]), h.2⟩
    · rw [look_neg q] at e
      rw [valV_neg (fun z => q (by rw [h.1] at z; exact Sum.inr.inj z))]
      exact DctAt.yes r e
theorem DctAt.isSome {β : Type} {R : V → β → Prop} {kvs : List (Key × V)} {l : List (Str × β)} {n : Str} (h : DctAt R kvs l) : (valV kvs (Sum.inr n)).isSome = (look l n).isSome := by
  cases e : look l n with
  | none => rw [h.no e] <;> rfl
  | some b =>
    obtain ⟨v, q, _⟩ := h.yes e
    rw [q]
    rfl
theorem DctAt.keys {β : Type} {R : V → β → Prop} : ∀ {kvs : List (Key × V)} {l : List (Str × β)}, DctAt R kvs l → kvs.map (fun kv => kV kv.1) = (l.map (·.1)).map V.str
  | _, _, .nil => rfl
  | _, _, .cons h r => by
    rw [List.map_cons, List.map_cons, List.map_cons, DctAt.keys r, h.1]
    rfl
theorem DctAt.len {β : Type} {R : V → β → Prop} {kvs : List (Key × V)} {l : List (Str × β)} (h : DctAt R kvs l) : kvs.length = l.length := Paired.length h
theorem DctAt.get {β : Type} {R : V → β → Prop} : ∀ {kvs : List (Key × V)} {l : List (Str × β)} {i : Nat} {s : Str × β}, DctAt R kvs l → l[i]? = Option.some s → ∃ v, kvs[i]? = Option.some (Sum.inr s.1, v) ∧ R v s.2
  | _, _, _, _, .nil, e => by simp at e
  | _, _, 0, s, .cons (a := kv) h _, e => by
    simp at e
    subst e
    exact ⟨kv.2, by simp [← h.1], h.2⟩
  | _, _, i + 1, s, .cons _ r, e => by
    obtain ⟨v, h1, h2⟩ := DctAt.get (i := i) (s := s) r (by simpa using e)
    exact ⟨v, by simpa using h1, h2⟩
end data

/-! ### the names that the defs ask -/
structure Tx (K : PySem.W.Frag) (mg : Str → Option Value) (C : Addr) : Prop where
  n_abs : mg "abs" = none
  n_all : mg "all" = none
  n_bool : mg "bool" = none
  n_dict : mg "dict" = none
  n_int : mg "int" = none
  n_isinstance : mg "isinstance" = none
  n_len : mg "len" = none
  n_list : mg "list" = none
  n_max : mg "max" = none
  n_min : mg "min" = none
  n_range : mg "range" = none
  n_set : mg "set" = none
  n_sorted : mg "sorted" = none
  n_str : mg "str" = none
  n_sum : mg "sum" = none
  n_tuple : mg "tuple" = none
  n_zip : mg "zip" = none
  c_LETTERS : ∃ u, mg "LETTERS" = some u ∧ RelV (.str "abcdefghijklmnopqrstuvwxyz") u
  c_MAX_NAME : ∃ u, mg "MAX_NAME" = some u ∧ RelV (.int 8) u
  c_MAX_NODES : ∃ u, mg "MAX_NODES" = some u ∧ RelV (.int 8) u
  c_MAX_INPUTS : ∃ u, mg "MAX_INPUTS" = some u ∧ RelV (.int 4) u
  c_MAX_DRIFT : ∃ u, mg "MAX_DRIFT" = some u ∧ RelV (.int 20) u
  c_MAX_COST : ∃ u, mg "MAX_COST" = some u ∧ RelV (.int 9) u
  c_MAX_FACTOR : ∃ u, mg "MAX_FACTOR" = some u ∧ RelV (.int 5) u
  c_MAX_HORIZON : ∃ u, mg "MAX_HORIZON" = some u ∧ RelV (.int 12) u
  c_MAX_TOLERANCE : ∃ u, mg "MAX_TOLERANCE" = some u ∧ RelV (.int 999) u
  c_MAX_QUERIES : ∃ u, mg "MAX_QUERIES" = some u ∧ RelV (.int 20) u
  cl : Cls K C
  nSp : NoAttr K C "springs"
  nDe : NoAttr K C "derived"
  insN : C8.InsC K C
  k_Network : mg "Network" = some (.ref C)
theorem ux {k : Nat} {A : Around} (r : Room k A) : A.units + 65 < cLine := by
  have := r.un
  omega
/-- a def of the text under its name, its arguments by place -/
def DefB (K : PySem.W.Frag) (mg : Str → Option Value) (x : Str) (st : Stmt) (ps : List Str) : Prop := ∃ f fd, C8.Def K mg x st f fd ∧ Binds K fd ps []
def MetB (K : PySem.W.Frag) (C : Addr) (m qual : Str) (st : Stmt) (ps : List Str) : Prop := ∃ f fd, Meth K C m f ∧ C8.Fun K m qual st f fd ∧ Binds K fd ps []
section defs
variable {P : Program} {w : World} {K : PySem.W.Frag} {mg : Str → Option Value} {base : Heap}
theorem cal_of {x : Str} {st : Stmt} {N ps : List Str} {k : Nat} {sp : Sp} (D : DefB K mg x st ps) (S : FnScope N ps (C8.fnScope st)) (len : ∀ vs H Q E, sp vs H Q E → vs.length = ps.length)
    (hbody : ∀ (f : Addr) (cdv : Value) (A : Around) (outer : List Env) (s : Shared) (H : Hp) (vs : List V) (Q : VK) (E : XK), Room k (A.deeper (envOfC x (C8.fnScope st) s.heap.objs.size f cdv)) → sp vs H Q E →
      ∃ t, PSs (cxOf C8.CX0 P w K mg base N x (C8.fnScope st) f cdv A outer s H E).nox (C8.fnBody st) t ∧ t { nx := fun _ H' => Q .non H', rt := Q } (start N vs) H) : C8.Cal P w K mg base (k + 1) x sp [] := by
  obtain ⟨f, fd, D, b⟩ := D
  exact C8.cal0 D b .nil S len fun cdv A outer s H vs Q E hr h => hbody f cdv A outer s H vs Q E hr h
theorem met_of {C : Addr} {m qual : Str} {st : Stmt} {N ps : List Str} {k : Nat} {sp : Sp} (cl : Cls K C) (D : MetB K C m qual st ps) (S : FnScope N ps (C8.fnScope st)) (len : ∀ vs H Q E, sp vs H Q E → vs.length = ps.length)
    (hbody : ∀ (f : Addr) (cdv : Value) (A : Around) (outer : List Env) (s : Shared) (H : Hp) (vs : List V) (Q : VK) (E : XK), Room k (A.deeper (envOfC qual (C8.fnScope st) s.heap.objs.size f cdv)) → sp vs H Q E →
      ∃ t, PSs (cxOf C8.CX0 P w K mg base N qual (C8.fnScope st) f cdv A outer s H E).nox (C8.fnBody st) t ∧ t { nx := fun _ H' => Q .non H', rt := Q } (start N vs) H) : C8.Met P w K mg base (k + 1) C m sp [] := by
  obtain ⟨f, fd, me, F, b⟩ := D
  exact C8.met0 cl me F b S len fun cdv A outer s H vs Q E hr h => hbody f cdv A outer s H vs Q E hr h
end defs
section rules
variable {X : Cx}
/-- one of two ways to walk -/
theorem pi_or {tg it : Expr} {w1 w2 : TI} (h1 : PI X tg it w1) (h2 : PI X tg it w2) : PI X tg it (fun σ H R => w1 σ H R ∨ w2 σ H R) :=
  ⟨fun pins s σ H R I h => h.elim (fun z => h1.run pins s σ H R I z) fun z => h2.run pins s σ H R I z⟩
/-! the same rules, the written part told apart (for a comprehension's block) -/
section kk
variable {K : PySem.W.Frag}
theorem op_in_seqK (h : X.K = K := by rfl) : OpR X (compareOp .In) (rIn K false) := h ▸ op_in_seq
theorem op_notIn_seqK (h : X.K = K := by rfl) : OpR X (compareOp .NotIn) (rIn K true) := h ▸ op_notIn_seq
theorem op_eqDK (hu : X.A.units + 64 < cLine) (h : X.K = K := by rfl) : OpR X (compareOp .Eq) (rEqD K) := h ▸ op_eqD hu
theorem op_neDK (hu : X.A.units + 64 < cLine) (h : X.K = K := by rfl) : OpR X (compareOp .NotEq) (rNeD K) := h ▸ op_neD hu
theorem op_inDK (hu : X.A.units + 65 < cLine) (h : X.K = K := by rfl) : OpR X (compareOp .In) (rInD K) := h ▸ op_inD hu
theorem op_notInDK (hu : X.A.units + 65 < cLine) (h : X.K = K := by rfl) : OpR X (compareOp .NotIn) (rNotInD K) := h ▸ op_notInD hu
theorem op_ltTK (hu : X.A.units < cLine) (h : X.K = K := by rfl) : OpR X (compareOp .Lt) (rLtT K) := h ▸ op_ltT hu
theorem ix_listK (h : X.K = K := by rfl) : IxR X (rIxL K) := h ▸ ix_list
theorem ix_tupK (h : X.K = K := by rfl) : IxR X (rIxT K) := h ▸ ix_tup
theorem call_isiK' (h : X.K = K := by rfl) : CallR X (.builtin "isinstance") (rIsi K) := h ▸ call_isi
theorem cr_sumK (hc : X.calm = true) (h : X.K = K := by rfl) : CallR X (.builtin "sum") (rSum K) := h ▸ cr_sum hc
theorem cr_allK (hc : X.calm = true) (h : X.K = K := by rfl) : CallR X (.builtin "all") (rAll K) := h ▸ cr_all hc
theorem cr_maxK (hc : X.calm = true) (h : X.K = K := by rfl) : CallR X (.builtin "max") (rMax K) := h ▸ cr_max hc
theorem pi_listK {tg l : Expr} {tl : TE} (hl : PE X l tl) (h : X.K = K := by rfl) : PI X tg l (iList K tl) := h ▸ pi_list hl
theorem pi_tupK {tg l : Expr} {tl : TE} (hl : PE X l tl) (h : X.K = K := by rfl) : PI X tg l (iTup K tl) := h ▸ pi_tup hl
end kk
/-- a fresh dict, from now on not to be written -/
def tFrz (td : TE) : TE := fun σ H Q => td σ H fun x H1 => ∃ d kvs, x = .ref d ∧ H1 d = some (.dK kvs) ∧ ∀ od, Q x (upd H1 d (.frz od (.dK kvs)))
theorem pe_frz {e : Expr} {td : TE} (he : PE X e td) : PE X e (tFrz td) := by
  refine ⟨fun pins s σ H Q I h => ?_⟩
  refine thn (he.run pins s σ H _ I h) fun u s1 ⟨x, H1, I1, r1, d, kvs, e1, e2, q⟩ => ?_
  obtain ⟨od, I2⟩ := I1.lock e2 trivial
  exact ⟨x, _, I2, r1, q od⟩
theorem pi_keysF {tg e : Expr} {td : TE} (he : PE X e td) : PI X tg e (iKeys (tFrz td)) := pi_keys (pe_frz he)
end rules

theorem bools_of {α : Type} {f : α → Bool} {ys : List V} {l : List α} (h : Paired (fun y a => y = V.bl (f a)) ys l) : ys = (l.map f).map V.bl := by
  rw [List.map_map]
  exact Paired.fn h
theorem ints_of {α : Type} {f : α → Int} {ys : List V} {l : List α} (h : Paired (fun y a => y = V.int (f a)) ys l) : ys = (l.map f).map V.int := by
  rw [List.map_map]
  exact Paired.fn h
theorem all_true {α : Type} {f : α → Bool} {l : List α} (h : ∀ a ∈ l, f a = true) : (l.map f).all id = true := by
  rw [List.all_map]
  exact List.all_eq_true.mpr fun a m => h a m
theorem filt_true {α : Type} (l : List α) : l.filter (fun _ => true) = l := List.filter_eq_self.mpr fun _ _ => rfl
/-! ### data as the model's comparisons see it -/
def rowD (r : Int × Str) : PyData := .tuple [.int r.1, .str r.2]
section dp
variable {K : PySem.W.Frag} {H : Hp} {p : Addr} {xs : List V}
theorem dpAll_map {β : Type} {R : V → β → Prop} {f : β → PyData} (k : ∀ v b, R v b → Dp K H v (f b)) : ∀ {xs : List V} {l : List β}, Paired R xs l → DpAll K H xs (l.map f)
  | _, _, .nil => .nil
  | _, _, .cons a b => .cons (k _ _ a) (dpAll_map k b)
theorem dp_row {x : V} {r : Int × Str} (h : RowAt H x r) : Dp K H x (rowD r) := by
  obtain ⟨t, rfl, ht⟩ := h
  exact .tup (SqT.of ht) (.cons (.int _) (.cons (.str _) .nil))
theorem dp_rows {rs : List (Int × Str)} (h : H p = some (.lst xs)) (hx : Rows H xs rs) : Dp K H (.ref p) (.list (rs.map rowD)) := .lst (SqL.of h) (dpAll_map (fun _ _ k => dp_row k) hx)
theorem dp_strs {l : List Str} (h : H p = some (.lst (l.map V.str))) : Dp K H (.ref p) (.list (l.map PyData.str)) := .lst (SqL.of h) (by
  clear h
  induction l with
  | nil => exact .nil
  | cons a r ih => exact .cons (.str a) ih)
theorem dp_ints {l : List Int} (h : H p = some (.lst (l.map V.int))) : Dp K H (.ref p) (.list (l.map PyData.int)) := .lst (SqL.of h) (by
  clear h
  induction l with
  | nil => exact .nil
  | cons a r ih => exact .cons (.int a) ih)
theorem dp_nil (h : H p = some (.lst [])) : Dp K H (.ref p) (.list []) := .lst (SqL.of h) .nil
theorem eqv_nil : ∀ ds : List PyData, PyData.eqv (.list ds) (.list []) = decide (ds = [])
  | [] => by simp [PyData.eqv, PyData.eqvAll]
  | _ :: _ => by simp [PyData.eqv, PyData.eqvAll]
theorem eqv_row (a b : Int × Str) : PyData.eqv (rowD a) (rowD b) = decide (a = b) := by
  obtain ⟨i, x⟩ := a
  obtain ⟨j, y⟩ := b
  simp only [rowD, PyData.eqv, PyData.eqvAll, Bool.and_true]
  by_cases h1 : i = j
  · subst h1
    by_cases h2 : x = y
    · subst h2
      simp
    · have : (x == y) = false := by simpa using h2
      simp [this, h2]
  · simp [h1]
theorem eqvAll_map {β : Type} [DecidableEq β] {f : β → PyData} (k : ∀ a b, PyData.eqv (f a) (f b) = decide (a = b)) : ∀ as bs : List β, PyData.eqvAll (as.map f) (bs.map f) = decide (as = bs)
  | [], [] => by simp [PyData.eqvAll]
  | [], _ :: _ => by simp [PyData.eqvAll]
  | _ :: _, [] => by simp [PyData.eqvAll]
  | a :: as, b :: bs => by
    rw [List.map_cons, List.map_cons, PyData.eqvAll, k, eqvAll_map k as bs]
    by_cases h1 : a = b
    · simp [h1]
    · simp [h1]
theorem eqv_rows (as bs : List (Int × Str)) : PyData.eqv (.list (as.map rowD)) (.list (bs.map rowD)) = decide (as = bs) := by
  rw [PyData.eqv]
  exact eqvAll_map eqv_row as bs
theorem eqv_ints (as bs : List Int) : PyData.eqv (.list (as.map PyData.int)) (.list (bs.map PyData.int)) = decide (as = bs) := by
  rw [PyData.eqv]
  exact eqvAll_map (fun a b => by simp [PyData.eqv]; by_cases h : a = b <;> simp [h]) as bs
theorem canAll {β : Type} {f : β → PyData} : ∀ {l : List β}, (∀ b ∈ l, (f b).canLay0 = true) → PyData.canLayAll0 (l.map f) = true
  | [], _ => by simp [PyData.canLayAll0]
  | b :: r, h => by
    rw [List.map_cons, PyData.canLayAll0, h b List.mem_cons_self, canAll fun c hc => h c (List.mem_cons_of_mem _ hc)]
    rfl
theorem depAll {β : Type} {f : β → PyData} {k : Nat} : ∀ {l : List β}, (∀ b ∈ l, (f b).depth ≤ k) → PyData.depthAll (l.map f) ≤ k
  | [], _ => by simp [PyData.depthAll]
  | b :: r, h => by
    rw [List.map_cons, PyData.depthAll]
    exact Nat.max_le.mpr ⟨h b List.mem_cons_self, depAll fun c hc => h c (List.mem_cons_of_mem _ hc)⟩
theorem shaped_list {β : Type} {f : β → PyData} {l : List β} (h1 : ∀ b ∈ l, (f b).canLay0 = true) (h2 : ∀ b ∈ l, (f b).depth ≤ 63) : SeqAt.shaped (.list (l.map f)) = true := by
  unfold SeqAt.shaped
  rw [Bool.and_eq_true]
  refine ⟨by rw [PyData.canLay0]; exact canAll h1, decide_eq_true ?_⟩
  rw [PyData.depth]
  exact Nat.succ_le_succ (depAll h2)
theorem row_can {r : Int × Str} (h : PyData.canLay0 (.str r.2) = true) : (rowD r).canLay0 = true := by
  simp only [rowD, PyData.canLay0, PyData.canLayAll0, Bool.true_and, Bool.and_true]
  simpa [PyData.canLay0] using h
theorem row_dep (r : Int × Str) : (rowD r).depth ≤ 63 := by
  simp [rowD, PyData.depth, PyData.depthAll]
theorem shaped_row {r : Int × Str} (h : PyData.canLay0 (.str r.2) = true) : SeqAt.shaped (rowD r) = true := by
  unfold SeqAt.shaped
  rw [row_can h, Bool.true_and]
  exact decide_eq_true (Nat.le_succ_of_le (row_dep r))
theorem shaped_rows {rs : List (Int × Str)} (h : ∀ r ∈ rs, PyData.canLay0 (.str r.2) = true) : SeqAt.shaped (.list (rs.map rowD)) = true := shaped_list (fun r m => row_can (h r m)) fun r _ => row_dep r
theorem shaped_strs {l : List Str} (h : ∀ x ∈ l, PyData.canLay0 (.str x) = true) : SeqAt.shaped (.list (l.map PyData.str)) = true := shaped_list h fun _ _ => by simp [PyData.depth]
theorem shaped_ints {l : List Int} : SeqAt.shaped (.list (l.map PyData.int)) = true := shaped_list (fun _ _ => by simp [PyData.canLay0]) fun _ _ => by simp [PyData.depth]
theorem shaped_nil : SeqAt.shaped (.list []) = true := shaped_ints (l := [])
theorem flatStrs (l : List Str) : (l.map V.str).all flatV = true := by
  rw [List.all_map]
  exact List.all_eq_true.mpr fun _ _ => rfl
theorem inV_strs (x : Str) (l : List Str) : inV (.str x) (l.map V.str) = decide (x ∈ l) := by
  unfold inV
  rw [List.any_map]
  induction l with
  | nil => simp
  | cons a r ih =>
    rw [List.any_cons, ih]
    show (a == x || _) = _
    by_cases h : a = x
    · subst h
      simp
    · have h' : ¬ x = a := fun z => h z.symm
      simp [h, h']
theorem tyL (h : H p = some (.lst xs)) : tyV K "list" (.ref p) H := Or.inl ⟨rfl, _, SqL.of h⟩
theorem tyD {kvs : List (Key × V)} (h : H p = some (.dK kvs)) : tyV K "dict" (.ref p) H := Or.inr (Or.inr (Or.inl ⟨rfl, Or.inl ⟨_, h⟩⟩))
end dp
/-! ### for the walk of a reading -/
/-- what the walk is not to open -/
structure Box (P : Prop) : Prop where
  un : P
section walk0
variable {T : Tb} {H H' : Hp} {a : Addr}
theorem Ex.atT {xs : List V} (e : Ex T H H') (h : H a = some (.tup xs)) : H' a = some (.tup xs) := e.at h
theorem Ex.atL {xs : List V} (e : Ex T H H') (h : H a = some (.lst xs)) : H' a = some (.lst xs) := e.at h
theorem Ex.atD {xs : List (Key × V)} (e : Ex T H H') (h : H a = some (.dK xs)) : H' a = some (.dK xs) := e.at h
theorem Ex.atI {C dx : Addr} {fs : List (Str × V)} (e : Ex T H H') (h : H a = some (.ins C dx fs)) : H' a = some (.ins C dx fs) := e.at h
theorem Ex.atF {o : Obj} {u : HO} (e : Ex T H H') (h : H a = some (.frz o u)) : H' a = some (.frz o u) := e.at h
theorem NetAt.ex' {C : Addr} {v : V} {N : Net} (h : NetAt C H v N) (e : Ex T H H') : NetAt C H' v N := h.ex e
theorem PartsAt.ex' {v : V} {N : Net} (h : PartsAt H v N) (e : Ex T H H') : PartsAt H' v N := h.ex e
theorem PlanAt.ex' {v : V} {N : Plan} (h : PlanAt H v N) (e : Ex T H H') : PlanAt H' v N := h.ex e
theorem QrsAt.ex' {v : V} {N : List Query} (h : QrsAt H v N) (e : Ex T H H') : QrsAt H' v N := h.ex e
theorem SrcD.ex' {d : Addr} {l : List (Str × Int × Int)} (h : SrcD H d l) (e : Ex T H H') : SrcD H' d l := h.ex e
theorem VwD.ex' {d : Addr} {l : List (Str × Frm × Int)} (h : VwD H d l) (e : Ex T H H') : VwD H' d l := h.ex e
theorem SeqIs.ex' {p : Addr} {xs : List V} (h : SeqIs H p xs) (e : Ex T H H') : SeqIs H' p xs := h.ex e
theorem Ex.atT' {xs : List V} (h : H a = some (.tup xs)) (e : Ex T H H') : H' a = some (.tup xs) := e.at h
theorem Ex.atL' {xs : List V} (h : H a = some (.lst xs)) (e : Ex T H H') : H' a = some (.lst xs) := e.at h
theorem Ex.atD' {xs : List (Key × V)} (h : H a = some (.dK xs)) (e : Ex T H H') : H' a = some (.dK xs) := e.at h
theorem Ex.atI' {C dx : Addr} {fs : List (Str × V)} (h : H a = some (.ins C dx fs)) (e : Ex T H H') : H' a = some (.ins C dx fs) := e.at h
theorem Ex.free' {p : Addr} (h : H' p = none) (e : Ex T H H') : H p = none := e.al p h
theorem FrmAt.ex' {v : V} {f : Frm} (h : FrmAt H v f) (e : Ex T H H') : FrmAt H' v f := h.tu e.tu
theorem VwAt.ex' {v : V} {f : Frm × Int} (h : VwAt H v f) (e : Ex T H H') : VwAt H' v f := h.tu e.tu
theorem RowAt.ex' {v : V} {f : Int × Str} (h : RowAt H v f) (e : Ex T H H') : RowAt H' v f := h.tu e.tu
theorem SrcAt.ex' {v : V} {f : Int × Int} (h : SrcAt H v f) (e : Ex T H H') : SrcAt H' v f := h.tu e.tu
theorem QryAt.ex' {v : V} {f : Query} (h : QryAt H v f) (e : Ex T H H') : QryAt H' v f := h.tu e.tu
theorem Rows.ex' {v : List V} {f : List (Int × Str)} (h : Rows H v f) (e : Ex T H H') : Rows H' v f := h.tu e.tu
theorem Ex.mutL {p : Addr} {xs ys : List V} (h : H' p = some (.lst xs)) (h0 : H p = none) (e : Ex T H H') : Ex T H (upd H' p (.lst ys)) := e.mut h0 h
theorem Ex.mutD {p : Addr} {xs ys : List (Key × V)} (h : H' p = some (.dK xs)) (h0 : H p = none) (e : Ex T H H') : Ex T H (upd H' p (.dK ys)) := e.mut h0 h
theorem upd_at {p q : Addr} {o u : HO} (n : p ≠ q) (h : H q = some u) : upd H p o q = some u := by rw [upd_ne (Ne.symm n)]; exact h
theorem upd_at' {p q : Addr} {o u : HO} (n : q ≠ p) (h : H q = some u) : upd H p o q = some u := by rw [upd_ne n]; exact h
theorem Ex.then' {H1 : Hp} (b : Ex T H1 H') (a : Ex T H H1) : Ex T H H' := a.trans b
end walk0
section walk
variable {T : Tb} {H H2 : Hp} {p : Addr} {o : HO} {c A B : Prop}
theorem iteY [Decidable c] (h : c) (a : A) : if decide c = true then A else B := by rw [if_pos (decide_eq_true h)]; exact a
theorem iteN [Decidable c] (h : ¬ c) (b : B) : if decide c = true then A else B := by rw [if_neg (by simp [h])]; exact b
theorem iteY' [Decidable c] (h : ¬ c) (a : A) : if (!decide c) = true then A else B := by rw [if_pos (by simp [h])]; exact a
theorem iteN' [Decidable c] (h : c) (b : B) : if (!decide c) = true then A else B := by rw [if_neg (by simp [h])]; exact b
theorem iteBt {b : Bool} (h : b = true) (a : A) : if b = true then A else B := by rw [if_pos h]; exact a
theorem iteBf {b : Bool} (h : b = false) (a : B) : if b = true then A else B := by rw [if_neg (by simp [h])]; exact a
theorem DGet_s {a : Addr} {kvs : List (Key × V)} {n : Str} (e : H a = some (.dK kvs)) : DGet H a (.str n) (valV kvs (Sum.inr n)) := DGet.k (k := Sum.inr n) e
theorem DGet_some {a : Addr} {kvs : List (Key × V)} {n : Str} {v : V} (e : H a = some (.dK kvs)) (h : valV kvs (Sum.inr n) = some v) : DGet H a (.str n) (some v) := h ▸ DGet_s e
theorem DGet_f {a : Addr} {od : Obj} {kvs : List (Key × V)} {n : Str} {v : V} (e : H a = some (.frz od (.dK kvs))) (h : valV kvs (Sum.inr n) = some v) : DGet H a (.str n) (some v) := .inl ⟨kvs, Sum.inr n, .inr ⟨od, e⟩, rfl, h.symm⟩
theorem DPut_s {a : Addr} {kvs : List (Key × V)} {n : Str} {v : V} (e : H a = some (.dK kvs)) (h : kvs.length ≤ 40000) : DPut H a (.str n) v (upd H a (.dK (putK kvs (Sum.inr n) v))) := DPut.k (k := Sum.inr n) e (Nat.lt_of_le_of_lt h (by decide))
theorem allocI {P : Addr → Prop} (k : ∀ p, H p = none → P p) : ∀ p, H p = none → P p := k
theorem exNew (e : upd H p o = H2) (h : H p = none) : Ex T H H2 := e ▸ Ex.new h
theorem updAt (e : upd H p o = H2) : H2 p = some o := e ▸ upd_same
end walk
/-! ### comprehensions whose turns leave what stood -/
/-- what is left of a comprehension when it is known what it walks -/
def LcGo (J : It) (g : TG) (tt : TT) (te : TE) (vs : List Nat) (σ : L2.St) (H : Hp) (Q : VK) : Prop := ∀ D, H D = none → ∃ W : Nat → Nat → Hp → Prop, (∃ m, W 0 m (upd H D (.lst []))) ∧ ∀ i m H', W i m H' →
      (J.stop i H' ∧ Q (.ref D) H') ∨ (J.go i H' ∧ ∃ Nx : Hp → Prop, (∀ H'', Nx H'' → ∃ m', m' < m ∧ W (i + 1) m' H'') ∧ ∀ x H'', J.yld i H' x H'' → g x (wipe σ vs) H'' fun σ2 H2 => wipe σ2 vs = wipe σ vs ∧ tt σ2 H2 fun b H3 =>
        if b = true then te σ2 H3 fun y H4 => ∃ acc, H4 D = some (.lst acc) ∧ acc.length < sizeLine ∧ Nx (upd H4 D (.lst (acc ++ [y]))) else Nx H3)
def DcGo (J : It) (g : TG) (tt : TT) (tk te : TE) (vs : List Nat) (σ : L2.St) (H : Hp) (Q : VK) : Prop := ∀ D, H D = none → ∃ W : Nat → Nat → Hp → Prop, (∃ m, W 0 m (upd H D (.dK []))) ∧ ∀ i m H', W i m H' →
      (J.stop i H' ∧ Q (.ref D) H') ∨ (J.go i H' ∧ ∃ Nx : Hp → Prop, (∀ H'', Nx H'' → ∃ m', m' < m ∧ W (i + 1) m' H'') ∧ ∀ x H'', J.yld i H' x H'' → g x (wipe σ vs) H'' fun σ2 H2 => wipe σ2 vs = wipe σ vs ∧ tt σ2 H2 fun b H3 =>
        if b = true then tk σ2 H3 fun y H4 => te σ2 H4 fun z H5 => ∃ kvs k, y = kV k ∧ H5 D = some (.dK kvs) ∧ kvs.length < sizeLine ∧ Nx (upd H5 D (.dK (putK kvs k z))) else Nx H3)
def ForGo (J : It) (g : TG) (tb : TS) (D : Ends) (σ : L2.St) (H : Hp) : Prop := ∃ W : Nat → Nat → L2.St → Hp → Prop, (∃ m, W 0 m σ H) ∧ ∀ i m σ H, W i m σ H →
      (J.stop i H ∧ D.nx σ H) ∨ (J.go i H ∧ ∃ N : L2.St → Hp → Prop, (∀ σ' H', N σ' H' → ∃ m', m' < m ∧ W (i + 1) m' σ' H') ∧ ∀ x H', J.yld i H x H' → g x σ H' fun σ2 H2 => tb { D with nx := N, ct := N, bk := D.nx } σ2 H2)
def tLcX (wi : TI) (g : TG) (tt : TT) (te : TE) (vs : List Nat) : TE := fun σ H Q => wi σ H fun J H1 => LcGo J g tt te vs σ H1 Q
def tDcX (wi : TI) (g : TG) (tt : TT) (tk te : TE) (vs : List Nat) : TE := fun σ H Q => wi σ H fun J H1 => DcGo J g tt tk te vs σ H1 Q
def tForX (wi : TI) (g : TG) (tb : TS) : TS := fun D σ H => wi σ H fun J H1 => ForGo J g tb D σ H1
@[irreducible] def WhGo (c : TT) (tb : TS) (D : Ends) (σ : L2.St) (H : Hp) : Prop := tWhile c tb D σ H
@[irreducible] def LkE (t : TE) (σ : L2.St) (H : Hp) (Q : VK) : Prop := tLockE t σ H Q
@[irreducible] def LkS (t : TS) (D : Ends) (σ : L2.St) (H : Hp) : Prop := tLock t D σ H
theorem WhGo.of {c : TT} {tb : TS} {D : Ends} {σ : L2.St} {H : Hp} (h : tWhile c tb D σ H) : WhGo c tb D σ H := by unfold WhGo; exact h
theorem LkE.of {t : TE} {σ : L2.St} {H : Hp} {Q : VK} (h : tLockE t σ H Q) : LkE t σ H Q := by unfold LkE; exact h
theorem LkS.of {t : TS} {D : Ends} {σ : L2.St} {H : Hp} (h : tLock t D σ H) : LkS t D σ H := by unfold LkS; exact h
theorem whX {X : Cx} {st : Stmt} {c : TT} {tb : TS} (h : PS X st (tWhile c tb)) : PS X st (WhGo c tb) := ⟨fun pins s σ H D I k => h.run pins s σ H D I (by unfold WhGo at k; exact k)⟩
theorem lkE {X : Cx} {e : Expr} {t : TE} (h : PE X e t) : PE X e (LkE t) := ⟨fun pins s σ H Q I k => (pe_lock h).run pins s σ H Q I (by unfold LkE at k; exact k)⟩
theorem lkS {X : Cx} {st : Stmt} {t : TS} (h : PS X st t) : PS X st (LkS t) := ⟨fun pins s σ H D I k => (ps_lock h).run pins s σ H D I (by unfold LkS at k; exact k)⟩
theorem lcX {X : Cx} {e : Expr} {wi : TI} {g : TG} {tt : TT} {te : TE} {vs : List Nat} (h : PE X e (tLc wi g tt te vs)) : PE X e (tLcX wi g tt te vs) := h
theorem dcX {X : Cx} {e : Expr} {wi : TI} {g : TG} {tt : TT} {tk te : TE} {vs : List Nat} (h : PE X e (tDc wi g tt tk te vs)) : PE X e (tDcX wi g tt tk te vs) := h
theorem slcX {X : Cx} {st : Stmt} {wi : TI} {g : TG} {tt : TT} {te : TE} {vs : List Nat} {i : Nat} (h : PS X st (tAsg (tLc wi g tt te vs) (gName i))) : PS X st (tAsg (tLcX wi g tt te vs) (gName i)) := h
theorem forX {X : Cx} {st : Stmt} {wi : TI} {g : TG} {tb : TS} (h : PS X st (tFor wi g tb)) : PS X st (tForX wi g tb) := h
section comps
variable {T : Tb} {J : It} {n : Nat} {G : Hp → Prop} {Y : Nat → Hp → V → Hp → Prop} {g : TG} {tt : TT} {te tk : TE} {vs : List Nat} {σ : L2.St} {H : Hp}
theorem sz4 {n : Nat} (h : n ≤ 40000) : n < sizeLine := Nat.lt_of_le_of_lt h (by decide)
theorem sz5 {n : Nat} (h : n ≤ 40000) : n ≤ sizeLine := Nat.le_of_lt (sz4 h)
theorem lc_pure {Q : VK} (wk : Walk J n G Y) (hn : n ≤ 40000) (hG : ∀ H', Ex T H H' → G H') (I : Nat → List V → Hp → Prop) (mono : ∀ i ys Ha Hb, Tu Ha Hb → I i ys Ha → I i ys Hb) (i0 : I 0 [] H)
    (step : ∀ i ys x Hc Hc' (K1 : V → Hp → Prop) (K0 : Hp → Prop), i < n → Ex T H Hc → I i ys Hc → Y i Hc x Hc' → (∀ y H4, Ex T Hc H4 → I (i + 1) (ys ++ [y]) H4 → K1 y H4) → (∀ H3, Ex T Hc H3 → I (i + 1) ys H3 → K0 H3) →
      g x (wipe σ vs) Hc' fun σ2 H2 => wipe σ2 vs = wipe σ vs ∧ tt σ2 H2 fun b H3 => if b = true then te σ2 H3 K1 else K0 H3)
    (done : ∀ D ys H2, H D = none → Ex T H H2 → H2 D = some (.lst ys) → I n ys H2 → Q (.ref D) H2) :
    LcGo J g tt te vs σ H Q := by
  intro D hD
  refine lc_it wk (fun i H' => ∃ ys, ys.length ≤ i ∧ H' D = some (.lst ys) ∧ Ex T H H' ∧ I i ys H') ⟨[], Nat.le_refl _, upd_same, Ex.new hD, mono _ _ _ _ (Tu.new hD) i0⟩ (fun i H' _ ⟨_, _, _, e, _⟩ => hG _ e) ?_ ?_
  · rintro i x Hc Hc' hi ⟨ys, hl, hd, e, q⟩ y
    refine step i ys x Hc Hc' (fun y H4 => ∃ acc, H4 D = some (.lst acc) ∧ acc.length < sizeLine ∧ (∃ ys, ys.length ≤ i + 1 ∧ upd H4 D (.lst (acc ++ [y])) D = some (.lst ys) ∧ Ex T H (upd H4 D (.lst (acc ++ [y]))) ∧ I (i + 1) ys (upd H4 D (.lst (acc ++ [y])))))
      (fun H3 => ∃ ys, ys.length ≤ i + 1 ∧ H3 D = some (.lst ys) ∧ Ex T H H3 ∧ I (i + 1) ys H3) hi e q y (fun y H4 e4 q4 => ?_) (fun H3 e3 q3 => ⟨ys, Nat.le_succ_of_le hl, e3.at hd, e.trans e3, q3⟩)
    have hd4 := e4.at hd
    exact ⟨ys, hd4, sz4 (by omega), _, by rw [List.length_append, List.length_singleton]; omega, upd_same, (e.trans e4).mut hD hd4, mono _ _ _ _ (Tu.set hd4) q4⟩
  · rintro H' ⟨ys, _, hd, e, q⟩
    exact done D ys H' hD e hd q
theorem take_succ_filter {β : Type} {l : List β} {i : Nat} {b : β} (p : β → Bool) (h : l[i]? = some b) : (l.take (i + 1)).filter p = (l.take i).filter p ++ (if p b = true then [b] else []) := by
  rw [List.take_add_one, h]
  simp only [Option.toList_some, List.filter_append, List.filter_cons, List.filter_nil]
/-- over the items of l, p the test, R what each item's value is -/
theorem lc_mapL {Q : VK} {β : Type} (l : List β) (p : β → Bool) (R : Hp → V → β → Prop) (mono : ∀ y b Ha Hb, Tu Ha Hb → R Ha y b → R Hb y b) (wk : Walk J l.length G Y) (hn : l.length ≤ 40000) (hG : ∀ H', Ex T H H' → G H')
    (step : ∀ i b x Hc Hc' (K1 : V → Hp → Prop) (K0 : Hp → Prop), l[i]? = some b → Ex T H Hc → Y i Hc x Hc' → (p b = true → ∀ y H4, Ex T Hc H4 → R H4 y b → K1 y H4) → (p b = false → ∀ H3, Ex T Hc H3 → K0 H3) →
      g x (wipe σ vs) Hc' fun σ2 H2 => wipe σ2 vs = wipe σ vs ∧ tt σ2 H2 fun b H3 => if b = true then te σ2 H3 K1 else K0 H3)
    (done : ∀ D ys H2, H D = none → Ex T H H2 → H2 D = some (.lst ys) → Paired (R H2) ys (l.filter p) → Q (.ref D) H2) :
    LcGo J g tt te vs σ H Q := by
  refine lc_pure wk hn hG (fun i ys H' => Paired (R H') ys ((l.take i).filter p)) (fun i ys Ha Hb t h => Paired.imp h fun a b k => mono a b _ _ t k) (by rw [List.take_zero]; exact .nil) ?_ ?_
  · intro i ys x Hc Hc' K1 K0 hi e q y k1 k0
    obtain ⟨b, hb⟩ : ∃ b, l[i]? = some b := ⟨l[i], by simp [hi]⟩
    refine step i b x Hc Hc' K1 K0 hb e y (fun hp y H4 e4 r => k1 y H4 e4 ?_) (fun hp H3 e3 => k0 H3 e3 ?_)
    · rw [take_succ_filter p hb, if_pos hp]
      exact Paired.appendP (Paired.imp q fun a b k => mono a b _ _ e4.tu k) (.cons r .nil)
    · rw [take_succ_filter p hb, hp, if_neg Bool.false_ne_true, List.append_nil]
      exact Paired.imp q fun a b k => mono a b _ _ e3.tu k
  · intro D ys H2 hD e hd q
    rw [List.take_length] at q
    exact done D ys H2 hD e hd q
section src
variable {K : PySem.W.Frag} {β : Type} {xs : List V} {p : Addr}
/-- over a list that stands, S what its items are -/
theorem lc_lstP {Q : VK} (l : List β) (S : V → β → Prop) (hp : H p = some (.lst xs)) (hx : Paired S xs l) (hn : l.length ≤ 40000) (t : β → Bool) (R : Hp → V → β → Prop) (mono : ∀ y b Ha Hb, Tu Ha Hb → R Ha y b → R Hb y b)
    (step : ∀ b x Hc (K1 : V → Hp → Prop) (K0 : Hp → Prop), b ∈ l → S x b → Ex T H Hc → (t b = true → ∀ y H4, Ex T Hc H4 → R H4 y b → K1 y H4) → (t b = false → ∀ H3, Ex T Hc H3 → K0 H3) →
      g x (wipe σ vs) Hc fun σ2 H2 => wipe σ2 vs = wipe σ vs ∧ tt σ2 H2 fun b H3 => if b = true then te σ2 H3 K1 else K0 H3)
    (done : ∀ D ys H2, H D = none → Ex T H H2 → H2 D = some (.lst ys) → Paired (R H2) ys (l.filter t) → Q (.ref D) H2) : LcGo (Itl K p) g tt te vs σ H Q := by
  refine lc_mapL (T := T) l t R mono (by rw [← Paired.length hx]; exact walk_list (K := K) (a := p)) hn (fun H' e => SqL.of (e.at hp)) ?_ done
  intro i b x Hc Hc' K1 K0 hb e y k1 k0
  obtain ⟨rfl, hxi⟩ := y
  obtain ⟨a, ha, hs⟩ := Paired.at hx hb
  rw [ha] at hxi
  cases hxi
  exact step b _ _ K1 K0 (List.mem_of_getElem? hb) hs e k1 k0
theorem lc_tupP {Q : VK} (l : List β) (S : V → β → Prop) (hp : H p = some (.tup xs)) (hx : Paired S xs l) (hn : l.length ≤ 40000) (t : β → Bool) (R : Hp → V → β → Prop) (mono : ∀ y b Ha Hb, Tu Ha Hb → R Ha y b → R Hb y b)
    (step : ∀ b x Hc (K1 : V → Hp → Prop) (K0 : Hp → Prop), b ∈ l → S x b → Ex T H Hc → (t b = true → ∀ y H4, Ex T Hc H4 → R H4 y b → K1 y H4) → (t b = false → ∀ H3, Ex T Hc H3 → K0 H3) →
      g x (wipe σ vs) Hc fun σ2 H2 => wipe σ2 vs = wipe σ vs ∧ tt σ2 H2 fun b H3 => if b = true then te σ2 H3 K1 else K0 H3)
    (done : ∀ D ys H2, H D = none → Ex T H H2 → H2 D = some (.lst ys) → Paired (R H2) ys (l.filter t) → Q (.ref D) H2) : LcGo (Itt K p) g tt te vs σ H Q := by
  refine lc_mapL (T := T) l t R mono (by rw [← Paired.length hx]; exact walk_tup (K := K) (a := p)) hn (fun H' e => SqT.of (e.at hp)) ?_ done
  intro i b x Hc Hc' K1 K0 hb e y k1 k0
  obtain ⟨rfl, hxi⟩ := y
  obtain ⟨a, ha, hs⟩ := Paired.at hx hb
  rw [ha] at hxi
  cases hxi
  exact step b _ _ K1 K0 (List.mem_of_getElem? hb) hs e k1 k0
end src
/-- a dict comprehension: I by the turn, what the new dict holds and the heap -/
theorem dc_pure {Q : VK} (wk : Walk J n G Y) (hn : n ≤ 40000) (hG : ∀ H', Ex T H H' → G H') (I : Nat → List (Key × V) → Hp → Prop) (mono : ∀ i ys Ha Hb, Tu Ha Hb → I i ys Ha → I i ys Hb) (i0 : I 0 [] H)
    (step : ∀ i ys x Hc Hc' (K1 : V → V → Hp → Prop) (K0 : Hp → Prop), i < n → Ex T H Hc → I i ys Hc → Y i Hc x Hc' → (∀ k y H4, Ex T Hc H4 → I (i + 1) (putK ys k y) H4 → K1 (kV k) y H4) → (∀ H3, Ex T Hc H3 → I (i + 1) ys H3 → K0 H3) →
      g x (wipe σ vs) Hc' fun σ2 H2 => wipe σ2 vs = wipe σ vs ∧ tt σ2 H2 fun b H3 => if b = true then tk σ2 H3 fun y H4 => te σ2 H4 fun z H5 => K1 y z H5 else K0 H3)
    (done : ∀ D ys H2, H D = none → Ex T H H2 → H2 D = some (.dK ys) → ys.length ≤ n → I n ys H2 → Q (.ref D) H2) :
    DcGo J g tt tk te vs σ H Q := by
  intro D hD
  refine ⟨fun i m H' => m = n - i ∧ i ≤ n ∧ ∃ ys, ys.length ≤ i ∧ H' D = some (.dK ys) ∧ Ex T H H' ∧ I i ys H', ⟨n, by simp, Nat.zero_le _, [], Nat.le_refl _, upd_same, Ex.new hD, mono _ _ _ _ (Tu.new hD) i0⟩, ?_⟩
  rintro i m H' ⟨rfl, hi, ys, hl, hd, e, q⟩
  have qG := hG H' e
  by_cases hlt : i < n
  · refine .inr ⟨wk.goes i H' hlt qG, fun H3 => ∃ ys, ys.length ≤ i + 1 ∧ H3 D = some (.dK ys) ∧ Ex T H H3 ∧ I (i + 1) ys H3, fun H3 p => ⟨n - (i + 1), by omega, rfl, hlt, p⟩, fun x H'' y => ?_⟩
    refine step i ys x H' H'' (fun y z H5 => ∃ kvs k, y = kV k ∧ H5 D = some (.dK kvs) ∧ kvs.length < sizeLine ∧ (∃ ys, ys.length ≤ i + 1 ∧ upd H5 D (.dK (putK kvs k z)) D = some (.dK ys) ∧ Ex T H (upd H5 D (.dK (putK kvs k z))) ∧ I (i + 1) ys (upd H5 D (.dK (putK kvs k z)))))
      (fun H3 => ∃ ys, ys.length ≤ i + 1 ∧ H3 D = some (.dK ys) ∧ Ex T H H3 ∧ I (i + 1) ys H3) hlt e q (wk.yields i H' x H'' hlt qG y) (fun k y H4 e4 q4 => ?_) (fun H3 e3 q3 => ⟨ys, Nat.le_succ_of_le hl, e3.at hd, e.trans e3, q3⟩)
    have hd4 := e4.at hd
    refine ⟨ys, k, rfl, hd4, sz4 (by omega), _, ?_, upd_same, (e.trans e4).mut hD hd4, mono _ _ _ _ (Tu.set hd4) q4⟩
    have := length_mergeK [(k, y)] ys
    have e' : mergeK ys [(k, y)] = putK ys k y := rfl
    rw [e'] at this
    simp at this
    omega
  · have e1 : i = n := by omega
    subst e1
    exact .inl ⟨wk.stops H' qG, done D ys H' hD e hd hl q⟩
theorem for_go {J : It} {n : Nat} {G : Hp → Prop} {Y : Nat → Hp → V → Hp → Prop} {g : TG} {tb : TS} {D : Ends} {σ : L2.St} {H : Hp} (wk : Walk J n G Y) (Pv : Nat → L2.St → Hp → Prop) (h0 : Pv 0 σ H) (hG : ∀ i σ H, i ≤ n → Pv i σ H → G H)
    (hs : ∀ i x σ H H', i < n → Pv i σ H → Y i H x H' → g x σ H' fun σ2 H2 => tb { D with nx := Pv (i + 1), ct := Pv (i + 1), bk := D.nx } σ2 H2) (hd : ∀ σ H, Pv n σ H → D.nx σ H) : ForGo J g tb D σ H := for_it wk Pv h0 hG hs hd
end comps
/-! ### a list or a tuple is walked -/
def iSeq (tl : TE) : TI := fun σ H R => tl σ H fun x H1 => ∃ a, x = .ref a ∧ ∃ xs, SeqIs H1 a xs ∧ ∀ J o, noTbl o = true → H1 a = some o → Walk J xs.length (fun H => H a = some o) (YAt xs) → R J H1
theorem _root_.L2.Walk.un {J : It} {n : Nat} {G G' : Hp → Prop} {Y : Nat → Hp → V → Hp → Prop} (w : Walk J n G Y) (h : ∀ H, G' H → G H) : Walk J n G' Y :=
  ⟨fun i H hi q => w.goes i H hi (h H q), fun H q => w.stops H (h H q), fun i H v H' hi q y => w.yields i H v H' hi (h H q) y⟩
theorem pi_seq {X : Cx} {tg l : Expr} {tl : TE} (hl : PE X l tl) : PI X tg l (iSeq tl) := by
  refine ⟨fun pins s σ H R I h => ?_⟩
  refine thn (hl.run pins s σ H _ I h) fun v s1 ⟨x, H1, I1, r1, q1⟩ => ?_
  obtain ⟨a, e, xs, hs, q⟩ := q1
  subst e
  cases r1
  have fp : ∀ b ∈ [s1.heap.objs.size], FpOk X pins H1 b := fun b hb => by
    have e : b = s1.heap.objs.size := by simpa using hb
    subst e
    exact I1.fpOk (Nat.le_refl _) (I1.hok.fresh (Nat.le_refl _))
  rcases hs with hs | hs
  · obtain ⟨its, rv, p, hz⟩ := I1.list (SqL.of hs)
    refine wpAny_pyIter_list p.isList ?_
    exact ⟨s1.heap.objs.size, [s1.heap.objs.size], _, _, H1, rfl, I1.kept (t' := s1.toks) fun b o e => Heap.get?_push_of_some _ e, turn_list a _, ⟨_, Heap.get?_push_size _ rfl, rfl, rfl⟩, fp, q _ _ rfl hs (walk_list.un fun H e => SqL.of e)⟩
  · obtain ⟨its, rv, p, hz⟩ := I1.tuple (SqT.of hs)
    refine wpAny_pyIter_tuple (show s1.heap.IsTuple a its.toArray from p) ?_
    exact ⟨s1.heap.objs.size, [s1.heap.objs.size], _, _, H1, rfl, I1.kept (t' := s1.toks) fun b o e => Heap.get?_push_of_some _ e, turn_tuple a _, ⟨_, Heap.get?_push_size _ rfl, rfl, rfl⟩, fp, q _ _ rfl hs (walk_tup.un fun H e => SqT.of e)⟩
section
variable {T : Tb} {J : It} {g : TG} {tt : TT} {te tk : TE} {vs : List Nat} {σ : L2.St} {H : Hp} {β : Type} {xs : List V} {a : Addr} {o : HO}
theorem lc_walkP {Q : VK} (l : List β) (S : V → β → Prop) (no : noTbl o = true) (hp : H a = some o) (wk : Walk J xs.length (fun H => H a = some o) (YAt xs)) (hx : Paired S xs l) (hn : l.length ≤ 40000) (t : β → Bool) (R : Hp → V → β → Prop) (mono : ∀ y b Ha Hb, Tu Ha Hb → R Ha y b → R Hb y b)
    (step : ∀ b x Hc (K1 : V → Hp → Prop) (K0 : Hp → Prop), b ∈ l → S x b → Ex T H Hc → (t b = true → ∀ y H4, Ex T Hc H4 → R H4 y b → K1 y H4) → (t b = false → ∀ H3, Ex T Hc H3 → K0 H3) →
      g x (wipe σ vs) Hc fun σ2 H2 => wipe σ2 vs = wipe σ vs ∧ tt σ2 H2 fun b H3 => if b = true then te σ2 H3 K1 else K0 H3)
    (done : ∀ D ys H2, H D = none → Ex T H H2 → H2 D = some (.lst ys) → Paired (R H2) ys (l.filter t) → Q (.ref D) H2) : LcGo J g tt te vs σ H Q := by
  refine lc_mapL (T := T) l t R mono (by rw [← Paired.length hx]; exact wk) hn (fun H' e => e.at hp no) ?_ done
  intro i b x Hc Hc' K1 K0 hb e y k1 k0
  obtain ⟨rfl, hxi⟩ := y
  obtain ⟨a, ha, hs⟩ := Paired.at hx hb
  rw [ha] at hxi
  cases hxi
  exact step b _ _ K1 K0 (List.mem_of_getElem? hb) hs e k1 k0
end
section
variable {T : Tb} {J : It} {n : Nat} {G : Hp → Prop} {Y : Nat → Hp → V → Hp → Prop} {g : TG} {tt : TT} {te : TE} {vs : List Nat} {σ : L2.St} {H : Hp} {β : Type} {xs : List V} {a p : Addr} {o : HO} {K : PySem.W.Frag}
def trues (n : Nat) : List Bool := List.replicate n true
theorem trues_all (n : Nat) : (trues n).all id = true := by unfold trues; induction n with | zero => rfl | succ n ih => rw [List.replicate_succ, List.all_cons, ih]; rfl
/-- all(..), every turn says True -/
theorem lc_all {Q : VK} (l : List β) (wk : Walk J l.length G Y) (hn : l.length ≤ 40000) (hG : ∀ H', Ex T H H' → G H')
    (step : ∀ i b x Hc Hc' (K1 : V → Hp → Prop) (K0 : Hp → Prop), l[i]? = some b → Ex T H Hc → Y i Hc x Hc' → (∀ H4, Ex T Hc H4 → K1 (.bl true) H4) →
      g x (wipe σ vs) Hc' fun σ2 H2 => wipe σ2 vs = wipe σ vs ∧ tt σ2 H2 fun b H3 => if b = true then te σ2 H3 K1 else K0 H3)
    (done : ∀ D H2, H D = none → Ex T H H2 → H2 D = some (.lst ((trues l.length).map V.bl)) → (trues l.length).all id = true → (!(trues l.length).all id) = false → Q (.ref D) H2) :
    LcGo J g tt te vs σ H Q := by
  refine lc_mapL (T := T) l (fun _ => true) (fun _ y _ => y = V.bl true) (fun _ _ _ _ _ h => h) wk hn hG ?_ ?_
  · intro i b x Hc Hc' K1 K0 hb e y k1 k0
    exact step i b x Hc Hc' K1 K0 hb e y fun H4 e4 => k1 rfl _ _ e4 rfl
  · intro D ys H2 hD e hd q
    rw [filt_true] at q
    have eq := bools_of (f := fun _ => true) q
    have : l.map (fun _ => true) = trues l.length := by unfold trues; rw [List.map_const']
    rw [eq, this] at hd
    exact done D H2 hD e hd (trues_all _) (by rw [trues_all] <;> rfl)
theorem lc_allL {Q : VK} (l : List β) (S : V → β → Prop) (hp : H p = some (.lst xs)) (hx : Paired S xs l) (hn : l.length ≤ 40000)
    (step : ∀ b x Hc (K1 : V → Hp → Prop) (K0 : Hp → Prop), b ∈ l → S x b → Ex T H Hc → (∀ H4, Ex T Hc H4 → K1 (.bl true) H4) →
      g x (wipe σ vs) Hc fun σ2 H2 => wipe σ2 vs = wipe σ vs ∧ tt σ2 H2 fun b H3 => if b = true then te σ2 H3 K1 else K0 H3)
    (done : ∀ D H2, H D = none → Ex T H H2 → H2 D = some (.lst ((trues l.length).map V.bl)) → (trues l.length).all id = true → (!(trues l.length).all id) = false → Q (.ref D) H2) :
    LcGo (Itl K p) g tt te vs σ H Q := by
  refine lc_all (T := T) l (by rw [← Paired.length hx]; exact walk_list (K := K) (a := p)) hn (fun H' e => SqL.of (e.at hp)) ?_ done
  intro i b x Hc Hc' K1 K0 hb e y k1
  obtain ⟨rfl, hxi⟩ := y
  obtain ⟨a, ha, hs⟩ := Paired.at hx hb
  rw [ha] at hxi
  cases hxi
  exact step b _ _ K1 K0 (List.mem_of_getElem? hb) hs e k1
theorem lc_allW {Q : VK} (l : List β) (S : V → β → Prop) (no : noTbl o = true) (hp : H a = some o) (wk : Walk J xs.length (fun H => H a = some o) (YAt xs)) (hx : Paired S xs l) (hn : l.length ≤ 40000)
    (step : ∀ b x Hc (K1 : V → Hp → Prop) (K0 : Hp → Prop), b ∈ l → S x b → Ex T H Hc → (∀ H4, Ex T Hc H4 → K1 (.bl true) H4) →
      g x (wipe σ vs) Hc fun σ2 H2 => wipe σ2 vs = wipe σ vs ∧ tt σ2 H2 fun b H3 => if b = true then te σ2 H3 K1 else K0 H3)
    (done : ∀ D H2, H D = none → Ex T H H2 → H2 D = some (.lst ((trues l.length).map V.bl)) → (trues l.length).all id = true → (!(trues l.length).all id) = false → Q (.ref D) H2) :
    LcGo J g tt te vs σ H Q := by
  refine lc_all (T := T) l (by rw [← Paired.length hx]; exact wk) hn (fun H' e => e.at hp no) ?_ done
  intro i b x Hc Hc' K1 K0 hb e y k1
  obtain ⟨rfl, hxi⟩ := y
  obtain ⟨a, ha, hs⟩ := Paired.at hx hb
  rw [ha] at hxi
  cases hxi
  exact step b _ _ K1 K0 (List.mem_of_getElem? hb) hs e k1
end
/-! ### more rules -/
theorem idx_first {l : List Str} {x : Str} : ∀ (m : Nat) (z : V), m < l.idxOf x → (l.map V.str)[m]? = some z → eqV z (.str x) = false := by
  intro m z hm hz
  rw [List.getElem?_map] at hz
  cases e : l[m]? with
  | none => rw [e] at hz; cases hz
  | some y =>
    rw [e] at hz
    cases hz
    show (y == x) = false
    refine beq_eq_false_iff_ne.mpr fun q => ?_
    subst q
    obtain ⟨h1, h2⟩ := List.getElem?_eq_some_iff.mp e
    have := List.not_of_lt_findIdx (p := (· == y)) (xs := l) (i := m) (by simpa [List.idxOf] using hm)
    simp [h2] at this
/-- names.index(x) -/
theorem mt_indexS {X : Cx} : MtR X "list.index" (fun x xs H Q => ∃ (a : Addr) (l : List Str) (y : Str), x = .ref a ∧ xs = [.str y] ∧ SqL X.K H a (l.map V.str) ∧ y ∈ l ∧ Q (.int (l.idxOf y : Nat)) H) := by
  intro pins s σ H x xs v us Q I rx rxs h
  obtain ⟨a, l, y, rfl, rfl, hs, hy, q⟩ := h
  have hlt := List.idxOf_lt_length_iff.mpr hy
  exact mt_index pins s σ H _ _ v us Q I rx rxs ⟨a, l.map V.str, .str y, l.idxOf y, .str l[l.idxOf y], rfl, rfl, hs, rfl, flatStrs l, by rw [List.getElem?_map, List.getElem?_eq_getElem hlt]; rfl,
    by rw [List.getElem_idxOf hlt]; exact beq_self_eq_true y, idx_first, q⟩
theorem seq_ty {K : PySem.W.Frag} {T : Tb} {H : Hp} {p : Addr} {xs : List V} (h : SeqIs H p xs) : ∃ t, Paired ClsV [.ty "list", .ty "tuple"] [.type "list", .type "tuple"] ∧ (∀ H', Ex T H H' → TyX K H' (.ref p) t) ∧ PySem.W.kitAny K t [.type "list", .type "tuple"] = some true := by
  have cl : Paired ClsV [.ty "list", .ty "tuple"] [.type "list", .type "tuple"] := .cons (.ty _) (.cons (.ty _) .nil)
  rcases h with h | h
  · exact ⟨_, cl, fun H' e => .base (.lst (e.at h)), kitAny_cons (b := true) (kit_ty (by decide +kernel)) (fun z => by cases z) (fun _ => rfl)⟩
  · exact ⟨_, cl, fun H' e => .base (.tup (e.at h)), kitAny_cons (b := false) (kit_ty (by decide +kernel)) (fun _ => kitAny_cons (b := true) (kit_ty (by decide +kernel)) (fun z => by cases z) (fun _ => rfl)) (fun z => by cases z)⟩
theorem SeqIs.sq {K : PySem.W.Frag} {T : Tb} {H H' : Hp} {p : Addr} {xs : List V} (h : SeqIs H p xs) (e : Ex T H H') : SqL K H' p xs ∨ SqT K H' p xs := h.elim (fun z => .inl (SqL.of (e.at z))) fun z => .inr (SqT.of (e.at z))
theorem for_goB {J : It} {n : Nat} {G : Hp → Prop} {Y : Nat → Hp → V → Hp → Prop} {g : TG} {tb : TS} {D : Ends} {σ : L2.St} {H : Hp} (wk : Walk J n G Y) (Pv : Nat → L2.St → Hp → Prop) (h0 : Pv 0 σ H) (hG : ∀ i σ H, i ≤ n → Pv i σ H → G H)
    (hs : ∀ i x σ H H', i < n → Pv i σ H → Y i H x H' → g x σ H' fun σ2 H2 => tb { D with nx := fun σ H => Box (Pv (i + 1) σ H), ct := fun σ H => Box (Pv (i + 1) σ H), bk := D.nx } σ2 H2) (hd : ∀ σ H, Pv n σ H → D.nx σ H) : ForGo J g tb D σ H :=
  for_go wk (fun i σ H => Box (Pv i σ H)) ⟨h0⟩ (fun i σ H hi p => hG i σ H hi p.un) (fun i x σ H H' hi p y => hs i x σ H H' hi p.un y) fun σ H p => hd σ H p.un
theorem RowAt.mk {H : Hp} {t : Addr} {a : Int} {b : Str} (h : H t = some (.tup [.int a, .str b])) : RowAt H (.ref t) (a, b) := ⟨t, rfl, h⟩
theorem rows_snoc {H : Hp} {ys : List V} {l : List (Int × Str)} {x : V} {r : Int × Str} (h : Rows H ys l) (k : RowAt H x r) : Rows H (ys ++ [x]) (l ++ [r]) := Paired.appendP h (.cons k .nil)
theorem dp_rowL {K : PySem.W.Frag} {H : Hp} {t : Addr} {a : Int} {b : Str} (h : H t = some (.tup [.int a, .str b])) : Dp K H (.ref t) (rowD (a, b)) := dp_row ⟨t, rfl, h⟩
theorem cmul_r {i j : Int} (h : -(2 ^ 64) < j ∧ j < 2 ^ 64) : CMul i j := .inr h
theorem cmul_l {i j : Int} (h : -(2 ^ 64) < i ∧ i < 2 ^ 64) : CMul i j := .inl h
theorem cdiv_i {i j : Int} (h : 0 < j ∧ j < 1073741824) : CDiv i j := h
theorem cmod_i {i j : Int} (h : 0 < j) : (fun (_ j : Int) => 0 < j) i j := h
end Rf

set_option Elab.async false
set_option linter.all false
set_option maxRecDepth 100000
set_option maxHeartbeats 4000000
set_option pp.maxSteps 1500
section
open PySem PySem.Spec PyProof.Rows L2 Rf
local macro_rules | `(tactic| walk_at "up") => `(tactic| first | assumption | exact Ex.refl _ | exact upd_same | (apply upd_at; (focus assumption); walk_at "up") | (apply upd_at'; (focus assumption); walk_at "up") | (apply Ex.mutL; (focus (walk_at "up")); (focus (walk_at "up")); walk_at "up") | (apply Ex.mutD; (focus (walk_at "up")); (focus (walk_at "up")); walk_at "up") | (apply Ex.free'; (focus assumption); walk_at "up") | (apply Ex.atT; (focus assumption); walk_at "up") | (apply Ex.atL; (focus assumption); walk_at "up") | (apply Ex.atD; (focus assumption); walk_at "up") | (apply Ex.atI; (focus assumption); walk_at "up") | (apply Ex.atF; (focus assumption); walk_at "up") | (apply Ex.then'; (focus assumption); walk_at "up") | (apply NetAt.ex; (focus assumption); walk_at "up") | (apply PartsAt.ex; (focus assumption); walk_at "up") | (apply PlanAt.ex; (focus assumption); walk_at "up") | (apply QrsAt.ex; (focus assumption); walk_at "up") | (apply SrcD.ex; (focus assumption); walk_at "up") | (apply VwD.ex; (focus assumption); walk_at "up") | (apply SeqIs.ex; (focus assumption); walk_at "up") | (apply NetAt.ex'; (focus assumption); walk_at "up") | (apply PartsAt.ex'; (focus assumption); walk_at "up") | (apply PlanAt.ex'; (focus assumption); walk_at "up") | (apply QrsAt.ex'; (focus assumption); walk_at "up") | (apply SrcD.ex'; (focus assumption); walk_at "up") | (apply VwD.ex'; (focus assumption); walk_at "up") | (apply SeqIs.ex'; (focus assumption); walk_at "up") | (apply Ex.atT'; (focus assumption); walk_at "up") | (apply Ex.atL'; (focus assumption); walk_at "up") | (apply Ex.atD'; (focus assumption); walk_at "up") | (apply Ex.atI'; (focus assumption); walk_at "up") | (with_reducible apply FrmAt.ex'; (focus assumption); walk_at "up") | (with_reducible apply VwAt.ex'; (focus assumption); walk_at "up") | (with_reducible apply RowAt.ex'; (focus assumption); walk_at "up") | (with_reducible apply SrcAt.ex'; (focus assumption); walk_at "up") | (with_reducible apply QryAt.ex'; (focus assumption); walk_at "up") | (with_reducible apply Rows.ex'; (focus assumption); walk_at "up") | (with_reducible apply StAt.exE; (focus assumption); walk_at "up") | (with_reducible apply sqU; (focus assumption); assumption) | (with_reducible apply sqE; (focus assumption); walk_at "up") | (with_reducible apply sqM; (focus assumption); (focus (walk_at "ne")); walk_at "up") | (with_reducible apply Ex.tabs'; (focus assumption); walk_at "up") | (with_reducible apply Ex.thenM; (focus assumption); (focus (walk_at "up")); walk_at "up") | (with_reducible apply Ex.thenMM; (focus assumption); walk_at "up") | (with_reducible apply atML; (focus assumption); (focus (walk_at "ne")); walk_at "up") | (with_reducible apply atMD; (focus assumption); (focus (walk_at "ne")); walk_at "up") | (with_reducible apply atMT; (focus assumption); (focus (walk_at "ne")); walk_at "up"))
local macro_rules | `(tactic| walk_at "ne") => `(tactic| first | assumption | (apply ne_st; (focus assumption); (walk_at "up")))
local macro_rules | `(tactic| walk_at "sv") => `(tactic| first | rfl | assumption | exact Ex.refl _ | exact ClsV.ty _ | (apply TyX.base; first | exact TyOf.int _ | exact TyOf.str _ | exact TyOf.bl _ | (apply TyOf.tup; walk_at "up") | (apply TyOf.lst; walk_at "up") | (apply TyOf.dK; walk_at "up")) | exact kit_ty (by decide +kernel) | (apply Rd.of; walk_at "up") | (apply DGet_some; (focus (walk_at "up")); assumption) | (apply DGet_f; (focus (walk_at "up")); assumption) | (apply DGet_s; walk_at "up") | (apply DPut_s; (focus (walk_at "up")); omega) | (apply sz5; simp only [List.length_map, List.length_append, List.length_cons, List.length_nil]; omega) | (apply sz4; simp only [List.length_map, List.length_append, List.length_cons, List.length_nil]; omega) | (apply SqL.of; walk_at "up") | (apply SqT.of; walk_at "up") | (apply Or.inl; apply SqL.of; walk_at "up") | (apply Or.inr; apply SqT.of; walk_at "up") | (apply Exists.intro; first | (apply SqL.of; walk_at "up") | (apply SqT.of; walk_at "up")) | exact flatStrs _ | (apply dp_nil; walk_at "up") | (apply dp_strs; walk_at "up") | (apply dp_ints; walk_at "up") | (apply dp_row; walk_at "up") | (apply dp_rowL; walk_at "up") | (apply dp_rows; (focus (walk_at "up")); walk_at "up") | exact shaped_nil | exact shaped_ints | (apply shaped_strs; assumption) | (apply shaped_rows; assumption) | (apply shaped_row; assumption) | (with_reducible apply RowAt.mk; walk_at "up") | (apply tyL; walk_at "up") | (apply tyD; walk_at "up") | (with_reducible apply cmul_r; constructor <;> omega) | (with_reducible apply cmul_l; constructor <;> omega) | (with_reducible apply cdiv_i; constructor <;> omega) | walk_at "up" | (with_reducible apply ne_st; (focus assumption); walk_at "up") | omega | (dsimp only; omega) | decide | (simp only [List.length_map, List.length_append, List.length_cons, List.length_nil]; omega))
local macro_rules | `(tactic| walk_at "cn") => `(tactic| first | assumption | omega | (dsimp only; omega) | (simp only [List.length_map, List.length_append, List.length_cons, List.length_nil, List.length_reverse]; omega) | decide)
local macro_rules | `(tactic| walk_at "rd") => `(tactic| first
  | (with_reducible show LcGo _ _ _ _ _ _ _ _)
  | (with_reducible show DcGo _ _ _ _ _ _ _ _ _)
  | (with_reducible show ForGo _ _ _ _ _ _)
  | (refine allocI (fun p hp => ?_); generalize hh : upd _ _ _ = H2; have e := exNew (T := ‹Tb›) hh hp; have h := updAt hh; clear hh; walk_at "rd")
  | (apply And.intro; (focus (walk_at "sv")); walk_at "rd")
  | (apply Exists.intro; walk_at "rd")
  | (refine iteY ?_ ?_; (focus (walk_at "cn")); walk_at "rd")
  | (refine iteN ?_ ?_; (focus (walk_at "cn")); walk_at "rd")
  | (refine iteY' ?_ ?_; (focus (walk_at "cn")); walk_at "rd")
  | (refine iteN' ?_ ?_; (focus (walk_at "cn")); walk_at "rd")
  | (refine iteBt ?_ ?_; (focus (first | assumption | decide +kernel)); walk_at "rd")
  | (refine iteBf ?_ ?_; (focus (first | assumption | decide +kernel)); walk_at "rd")
  | (intro _; walk_at "rd") | skip)
namespace Rf
open NdefX LamX
/-! ### the head: facts by names, one run in the kernel -/
abbrev R : PySem.W.OpenRow := PySem.W.OpenLaw.row PySem.Challenge.rw_fewrefresh_k33_whole_plans
def dF (x : Str) (st : Stmt) : He.DefD := ⟨(x, none), x, x, C8.fnArgs st, C8.fnBody st, C8.fnScope st, [], []⟩
def dM (m q : Str) (st : Stmt) : He.DefD := ⟨("Network", some m), m, q, C8.fnArgs st, C8.fnBody st, C8.fnScope st, [], []⟩
def hfa0 : List He.Fa := [.glo "is_integer", .glo "is_name", .glo "is_pair", .glo "is_source", .glo "is_term", .glo "inputs_of", .glo "is_formula", .glo "is_view", .glo "check_network", .glo "check_horizon", .glo "refresh_key", .glo "is_refresh", .glo "check_plan", .glo "is_query", .glo "check_query", .glo "check_queries", .glo "stamps_of", .glo "joined", .glo "ages_of", .glo "bounds_of"]
def hfa1 : List He.Fa := [.glo "combined", .glo "worst_of", .glo "cost_of", .glo "cost", .glo "is_enough", .glo "check_asked", .glo "is_sufficient", .glo "check_sufficient", .glo "without", .glo "slacks", .glo "redundant", .glo "trimmed", .glo "sorted_plan", .glo "delayed", .glo "_law_cell_at", .glo "_law_draw", .glo "_law_number", .glo "_law_next", .glo "_law_pick", .glo "_law_network"]
def hfa2 : List He.Fa := [.glo "_law_inputs", .glo "_law_under", .glo "_law_plan", .glo "_law_query", .glo "_law_ages", .glo "_law_error", .glo "_law_worst", .glo "_law_enough", .glo "_law_order", .glo "_law_trimmed", .glo "_law_delayed", .glo "_law_refused", .glo "_law_one_right", .glo "law", .glo "Network", .glo "NotSufficient", .free "abs", .free "all", .free "bool", .free "dict"]
def hfa3 : List He.Fa := [.free "int", .free "isinstance", .free "len", .free "list", .free "max", .free "min", .free "range", .free "set", .free "sorted", .free "str", .free "sum", .free "tuple", .free "zip", .str "LETTERS" "abcdefghijklmnopqrstuvwxyz", .int "MAX_NAME" 8, .int "MAX_NODES" 8, .int "MAX_INPUTS" 4, .int "MAX_DRIFT" 20, .int "MAX_COST" 9, .int "MAX_FACTOR" 5]
def hfa4 : List He.Fa := [.int "MAX_HORIZON" 12, .int "MAX_TOLERANCE" 999, .int "MAX_QUERIES" 20, .cls "Network", .noat "Network" "springs", .noat "Network" "derived", .mkr "Network", .meth "Network" "sources", .meth "Network" "views", .meth "Network" "names", .meth "Network" "inputs", .meth "Network" "below", .meth "Network" "price", .exc "NotSufficient", .exm "NotSufficient" "NotSufficient" true, .keep "NotSufficient"]
def hfa : List He.Fa := hfa0 ++ hfa1 ++ hfa2 ++ hfa3 ++ hfa4
def hfn0 : List He.DefD := [dF "is_integer" s_is_integer, dF "is_name" s_is_name, dF "is_pair" s_is_pair, dF "is_source" s_is_source, dF "is_term" s_is_term, dF "inputs_of" s_inputs_of, dF "is_formula" s_is_formula, dF "is_view" s_is_view, dF "check_network" s_check_network, dF "check_horizon" s_check_horizon, dF "refresh_key" s_refresh_key, dF "is_refresh" s_is_refresh, dF "check_plan" s_check_plan, dF "is_query" s_is_query, dF "check_query" s_check_query, dF "check_queries" s_check_queries, dF "stamps_of" s_stamps_of, dF "joined" s_joined, dF "ages_of" s_ages_of, dF "bounds_of" s_bounds_of]
def hfn1 : List He.DefD := [dF "combined" s_combined, dF "worst_of" s_worst_of, dF "cost_of" s_cost_of, dF "cost" s_cost, dF "is_enough" s_is_enough, dF "check_asked" s_check_asked, dF "is_sufficient" s_is_sufficient, dF "check_sufficient" s_check_sufficient, dF "without" s_without, dF "slacks" s_slacks, dF "redundant" s_redundant, dF "trimmed" s_trimmed, dF "sorted_plan" s_sorted_plan, dF "delayed" s_delayed, dF "_law_cell_at" s_l_cell_at, dF "_law_draw" s_l_draw, dF "_law_number" s_l_number, dF "_law_next" s_l_next, dF "_law_pick" s_l_pick, dF "_law_network" s_l_network]
def hfn2 : List He.DefD := [dF "_law_inputs" s_l_inputs, dF "_law_under" s_l_under, dF "_law_plan" s_l_plan, dF "_law_query" s_l_query, dF "_law_ages" s_l_ages, dF "_law_error" s_l_error, dF "_law_worst" s_l_worst, dF "_law_enough" s_l_enough, dF "_law_order" s_l_order, dF "_law_trimmed" s_l_trimmed, dF "_law_delayed" s_l_delayed, dF "_law_refused" s_l_refused, dF "_law_one_right" s_l_one_right, dF "law" s_law, dM "__init__" "Network.__init__" s_m_init, dM "sources" "Network.sources" s_m_sources, dM "views" "Network.views" s_m_views, dM "names" "Network.names" s_m_names, dM "inputs" "Network.inputs" s_m_inputs, dM "below" "Network.below" s_m_below]
def hfn3 : List He.DefD := [dM "price" "Network.price" s_m_price]
def hfn : List He.DefD := hfn0 ++ hfn1 ++ hfn2 ++ hfn3
def htf : List He.Defn := [("sorted_plan", none), ("_law_order", none), ("_law_one_right", none)]
/-- what isinstance asks; the tables stand apart -/
def hex (K : PySem.W.Frag) : Bool := He.eqO (PySem.W.findIn K (.ref (He.ga K "Network")) "__class__") (some (some (.builtin "object.__class__"))) && (He.eqO (PySem.W.specialIn K (.builtin "object.__class__") "__get__") (some (some (.builtin "getset_descriptor.__get__"))) &&
  (decide (PySem.W.takesIn K (.builtin "object.__class__") = some true) && (decide (PySem.W.mroIn K (He.ga K "Network") (.type "object") = some true) && (decide (PySem.W.kitOne K (.ref (He.ga K "Network")) (.ref (He.ga K "Network")) = some true) &&
  (!decide ((He.cT K ("sorted_plan", none)).2 = (He.cT K ("_law_order", none)).2) && (!decide ((He.cT K ("sorted_plan", none)).2 = (He.cT K ("_law_one_right", none)).2) && !decide ((He.cT K ("_law_order", none)).2 = (He.cT K ("_law_one_right", none)).2)))))))
abbrev hhk : PySem.W.Hook := He.hookX 5 hfa hfn [] htf hex
def hob (s : PySem.W.SharedT) : He.AlX := He.obsX 5 hfa hfn [] htf hex (HandSHeadRun.getT s)
theorem hob_eq (s : PySem.W.SharedT) : hob s = hhk.obs s.abs := He.obsX_eq (HandSHeadRun.getT_eq s)
def hnm0 : List Str := ["__name__", "RefreshError", "BadNetwork", "BadNumber", "BadPlan", "BadQuery", "NotSufficient", "LETTERS", "MAX_NAME", "MAX_NODES", "MAX_INPUTS", "MAX_DRIFT", "MAX_COST", "MAX_FACTOR", "is_integer", "is_name", "is_pair", "is_source", "is_term", "inputs_of"]
def hnm1 : List Str := ["is_formula", "Network", "is_view", "check_network", "MAX_HORIZON", "MAX_TOLERANCE", "MAX_QUERIES", "check_horizon", "refresh_key", "is_refresh", "check_plan", "is_query", "check_query", "check_queries", "stamps_of", "joined", "ages_of", "bounds_of", "combined", "worst_of"]
def hnm2 : List Str := ["cost_of", "cost", "is_enough", "check_asked", "is_sufficient", "check_sufficient", "without", "slacks", "redundant", "trimmed", "sorted_plan", "delayed", "_law_cell_at", "_law_draw", "_law_number", "_law_next", "_law_pick", "_law_network", "_law_inputs", "_law_under"]
def hnm3 : List Str := ["_law_formula", "_law_true", "_law_caches", "_law_world", "_law_plan", "_law_query", "_law_ages", "_law_error", "_law_worst", "_law_enough", "_law_order", "_law_trimmed", "_law_delayed", "_law_refused", "_law_one_right"]
def hnm : List Str := hnm0 ++ hnm1 ++ hnm2 ++ hnm3
theorem hrun (w : World) : HandSHeadRun.RunEq R (PySem.W.view R.prog [80]) hhk hob 4000 hnm w := by
  intro os
  kernel_rfl
end Rf
end

set_option Elab.async false
set_option linter.all false
set_option maxRecDepth 100000
set_option maxHeartbeats 4000000
set_option pp.maxSteps 1500
section
open PySem PySem.Spec PyProof.Rows L2 Rf
local macro_rules | `(tactic| walk_at "up") => `(tactic| first | assumption | exact Ex.refl _ | exact upd_same | (apply upd_at; (focus assumption); walk_at "up") | (apply upd_at'; (focus assumption); walk_at "up") | (apply Ex.mutL; (focus (walk_at "up")); (focus (walk_at "up")); walk_at "up") | (apply Ex.mutD; (focus (walk_at "up")); (focus (walk_at "up")); walk_at "up") | (apply Ex.free'; (focus assumption); walk_at "up") | (apply Ex.atT; (focus assumption); walk_at "up") | (apply Ex.atL; (focus assumption); walk_at "up") | (apply Ex.atD; (focus assumption); walk_at "up") | (apply Ex.atI; (focus assumption); walk_at "up") | (apply Ex.atF; (focus assumption); walk_at "up") | (apply Ex.then'; (focus assumption); walk_at "up") | (apply NetAt.ex; (focus assumption); walk_at "up") | (apply PartsAt.ex; (focus assumption); walk_at "up") | (apply PlanAt.ex; (focus assumption); walk_at "up") | (apply QrsAt.ex; (focus assumption); walk_at "up") | (apply SrcD.ex; (focus assumption); walk_at "up") | (apply VwD.ex; (focus assumption); walk_at "up") | (apply SeqIs.ex; (focus assumption); walk_at "up") | (apply NetAt.ex'; (focus assumption); walk_at "up") | (apply PartsAt.ex'; (focus assumption); walk_at "up") | (apply PlanAt.ex'; (focus assumption); walk_at "up") | (apply QrsAt.ex'; (focus assumption); walk_at "up") | (apply SrcD.ex'; (focus assumption); walk_at "up") | (apply VwD.ex'; (focus assumption); walk_at "up") | (apply SeqIs.ex'; (focus assumption); walk_at "up") | (apply Ex.atT'; (focus assumption); walk_at "up") | (apply Ex.atL'; (focus assumption); walk_at "up") | (apply Ex.atD'; (focus assumption); walk_at "up") | (apply Ex.atI'; (focus assumption); walk_at "up") | (with_reducible apply FrmAt.ex'; (focus assumption); walk_at "up") | (with_reducible apply VwAt.ex'; (focus assumption); walk_at "up") | (with_reducible apply RowAt.ex'; (focus assumption); walk_at "up") | (with_reducible apply SrcAt.ex'; (focus assumption); walk_at "up") | (with_reducible apply QryAt.ex'; (focus assumption); walk_at "up") | (with_reducible apply Rows.ex'; (focus assumption); walk_at "up") | (with_reducible apply StAt.exE; (focus assumption); walk_at "up") | (with_reducible apply sqU; (focus assumption); assumption) | (with_reducible apply sqE; (focus assumption); walk_at "up") | (with_reducible apply sqM; (focus assumption); (focus (walk_at "ne")); walk_at "up") | (with_reducible apply Ex.tabs'; (focus assumption); walk_at "up") | (with_reducible apply Ex.thenM; (focus assumption); (focus (walk_at "up")); walk_at "up") | (with_reducible apply Ex.thenMM; (focus assumption); walk_at "up") | (with_reducible apply atML; (focus assumption); (focus (walk_at "ne")); walk_at "up") | (with_reducible apply atMD; (focus assumption); (focus (walk_at "ne")); walk_at "up") | (with_reducible apply atMT; (focus assumption); (focus (walk_at "ne")); walk_at "up"))
local macro_rules | `(tactic| walk_at "ne") => `(tactic| first | assumption | (apply ne_st; (focus assumption); (walk_at "up")))
local macro_rules | `(tactic| walk_at "sv") => `(tactic| first | rfl | assumption | exact Ex.refl _ | exact ClsV.ty _ | (apply TyX.base; first | exact TyOf.int _ | exact TyOf.str _ | exact TyOf.bl _ | (apply TyOf.tup; walk_at "up") | (apply TyOf.lst; walk_at "up") | (apply TyOf.dK; walk_at "up")) | exact kit_ty (by decide +kernel) | (apply Rd.of; walk_at "up") | (apply DGet_some; (focus (walk_at "up")); assumption) | (apply DGet_f; (focus (walk_at "up")); assumption) | (apply DGet_s; walk_at "up") | (apply DPut_s; (focus (walk_at "up")); omega) | (apply sz5; simp only [List.length_map, List.length_append, List.length_cons, List.length_nil]; omega) | (apply sz4; simp only [List.length_map, List.length_append, List.length_cons, List.length_nil]; omega) | (apply SqL.of; walk_at "up") | (apply SqT.of; walk_at "up") | (apply Or.inl; apply SqL.of; walk_at "up") | (apply Or.inr; apply SqT.of; walk_at "up") | (apply Exists.intro; first | (apply SqL.of; walk_at "up") | (apply SqT.of; walk_at "up")) | exact flatStrs _ | (apply dp_nil; walk_at "up") | (apply dp_strs; walk_at "up") | (apply dp_ints; walk_at "up") | (apply dp_row; walk_at "up") | (apply dp_rowL; walk_at "up") | (apply dp_rows; (focus (walk_at "up")); walk_at "up") | exact shaped_nil | exact shaped_ints | (apply shaped_strs; assumption) | (apply shaped_rows; assumption) | (apply shaped_row; assumption) | (with_reducible apply RowAt.mk; walk_at "up") | (apply tyL; walk_at "up") | (apply tyD; walk_at "up") | (with_reducible apply cmul_r; constructor <;> omega) | (with_reducible apply cmul_l; constructor <;> omega) | (with_reducible apply cdiv_i; constructor <;> omega) | walk_at "up" | (with_reducible apply ne_st; (focus assumption); walk_at "up") | omega | (dsimp only; omega) | decide | (simp only [List.length_map, List.length_append, List.length_cons, List.length_nil]; omega))
local macro_rules | `(tactic| walk_at "cn") => `(tactic| first | assumption | omega | (dsimp only; omega) | (simp only [List.length_map, List.length_append, List.length_cons, List.length_nil, List.length_reverse]; omega) | decide)
local macro_rules | `(tactic| walk_at "rd") => `(tactic| first
  | (with_reducible show LcGo _ _ _ _ _ _ _ _)
  | (with_reducible show DcGo _ _ _ _ _ _ _ _ _)
  | (with_reducible show ForGo _ _ _ _ _ _)
  | (refine allocI (fun p hp => ?_); generalize hh : upd _ _ _ = H2; have e := exNew (T := ‹Tb›) hh hp; have h := updAt hh; clear hh; walk_at "rd")
  | (apply And.intro; (focus (walk_at "sv")); walk_at "rd")
  | (apply Exists.intro; walk_at "rd")
  | (refine iteY ?_ ?_; (focus (walk_at "cn")); walk_at "rd")
  | (refine iteN ?_ ?_; (focus (walk_at "cn")); walk_at "rd")
  | (refine iteY' ?_ ?_; (focus (walk_at "cn")); walk_at "rd")
  | (refine iteN' ?_ ?_; (focus (walk_at "cn")); walk_at "rd")
  | (refine iteBt ?_ ?_; (focus (first | assumption | decide +kernel)); walk_at "rd")
  | (refine iteBf ?_ ?_; (focus (first | assumption | decide +kernel)); walk_at "rd")
  | (intro _; walk_at "rd") | skip)
/-! ### the tree below a node, in plain data -/
namespace Rf
section
theorem VwsOk.split : ∀ {known free : List Str} {l : List (Str × Frm × Int)} {i : Nat} {v : Str × Frm × Int}, VwsOk known free l → (∀ x ∈ free, x ∈ known) → l[i]? = some v → (∀ x ∈ v.2.1.names, x ∈ known ++ (l.take i).map (·.1)) ∧ v.1 ∉ known ++ (l.take i).map (·.1)
  | _, _, [], _, _, _, _, h => by simp at h
  | known, free, u :: r, 0, v, ok, hs, h => by
    simp at h
    subst h
    simp only [List.take_zero, List.map_nil, List.append_nil]
    exact ⟨fun x hx => hs x (ok.1.us x hx), ok.1.nk⟩
  | known, free, u :: r, i + 1, v, ok, hs, h => by
    have h2 := VwsOk.split (i := i) (v := v) ok.2 (fun x hx => by
      unfold freeBy at hx
      rcases List.mem_append.mp hx with hx | hx
      · exact List.mem_append_left _ (hs x (List.mem_filter.mp hx).1)
      · exact List.mem_append_right _ hx) (by simpa using h)
    simpa using h2
theorem VwsOk.nodup : ∀ {known free : List Str} {l : List (Str × Frm × Int)}, VwsOk known free l → known.Nodup → (known ++ l.map (·.1)).Nodup
  | _, _, [], _, h => by simpa using h
  | known, free, u :: r, ok, h => by
    have h2 := VwsOk.nodup ok.2 (by
      rw [List.nodup_append]
      refine ⟨h, by simp, fun a ha b hb => ?_⟩
      simp at hb
      subst hb
      intro e
      subst e
      exact ok.1.nk ha)
    simpa using h2
variable {N : Net}
theorem NetOk.nodup (ok : NetOk N) : N.names.Nodup := ok.vo.nodup ok.sn
theorem NetOk.len (ok : NetOk N) : N.names.length ≤ 5 := by
  have := ok.s5
  unfold Net.names
  simp only [List.length_append, List.length_map]
  exact this
/-- a node's place -/
def Net.idx (N : Net) (n : Str) : Nat := N.names.idxOf n
theorem idx_lt_of_mem_take {l r : List Str} {x y : Str} (h : x ∈ l) (hy : y ∉ l) : (l ++ y :: r).idxOf x < (l ++ y :: r).idxOf y := by
  rw [List.idxOf_append, if_pos h, List.idxOf_append, if_neg hy, List.idxOf_cons_self]
  have := List.idxOf_lt_length_iff.mpr h
  omega
theorem NetOk.order (ok : NetOk N) {n t : Str} (h : t ∈ N.inputs n) : N.idx t < N.idx n ∧ N.idx n ≤ 4 ∧ t ∈ N.names ∧ n ∈ N.names := by
  unfold Net.inputs at h
  cases e : look N.vws n with
  | none =>
    rw [e] at h
    cases h
  | some f =>
    rw [e] at h
    obtain ⟨i, hi, e2⟩ := List.mem_iff_getElem.mp (look_mem e)
    have hl : N.vws[i]? = some (n, f) := by rw [List.getElem?_eq_getElem hi, e2]
    obtain ⟨h1, h2⟩ := ok.vo.split (fun _ h => h) hl
    have hN : N.names = (N.src.map (·.1) ++ (N.vws.take i).map (·.1)) ++ n :: (N.vws.drop (i + 1)).map (·.1) := by
      unfold Net.names
      conv => lhs; rw [← List.take_append_drop i N.vws]
      rw [List.map_append, List.append_assoc, List.drop_eq_getElem_cons hi, List.map_cons, e2]
    have hn : n ∈ N.names := by rw [hN]; simp
    refine ⟨?_, ?_, ?_, hn⟩
    · unfold Net.idx
      rw [hN]
      exact idx_lt_of_mem_take (h1 t h) h2
    · have := List.idxOf_lt_length_iff.mpr hn
      have := ok.len
      unfold Net.idx
      omega
    · rw [hN]
      exact List.mem_append_left _ (h1 t h)
section tree
variable {α : Type}
def treeF (N : Net) (g : Str → List α → α) : Nat → Str → α
  | 0, n => g n []
  | k + 1, n => g n ((N.inputs n).map (treeF N g k))
theorem treeF_stable (ok : NetOk N) (g : Str → List α → α) : ∀ k n, N.idx n ≤ k → n ∈ N.names → treeF N g k n = treeF N g (k + 1) n
  | 0, n, h, _ => by
    have e : N.inputs n = [] := by
      cases q : N.inputs n with
      | nil => rfl
      | cons t r =>
        have := (ok.order (n := n) (t := t) (by rw [q]; exact List.mem_cons_self)).1
        omega
    show g n [] = g n ((N.inputs n).map _)
    rw [e]
    rfl
  | k + 1, n, h, _ => by
    show g n _ = g n _
    congr 1
    refine List.map_congr_left fun t ht => ?_
    obtain ⟨h1, h2, h3, _⟩ := ok.order ht
    exact treeF_stable ok g k t (by omega) h3
theorem treeF_eq (ok : NetOk N) (g : Str → List α → α) (n : Str) : treeF N g 5 n = g n ((N.inputs n).map (treeF N g 5)) := by
  show g n _ = g n _
  congr 1
  refine List.map_congr_left fun t ht => ?_
  obtain ⟨h1, h2, h3, _⟩ := ok.order ht
  exact treeF_stable ok g 4 t (by omega) h3
/-- along the tree -/
theorem tree_ind (ok : NetOk N) {P : Str → Prop} (h : ∀ n, (∀ t ∈ N.inputs n, P t) → P n) : ∀ n, P n := by
  have key : ∀ k n, N.idx n ≤ k → P n := by
    intro k
    induction k with
    | zero =>
      intro n hn
      exact h n fun t ht => by
        have := (ok.order ht).1
        omega
    | succ k ih =>
      intro n hn
      exact h n fun t ht => ih t (by have := (ok.order ht).1; omega)
  exact fun n => key _ n (Nat.le_refl _)
end tree
/-- a node and all below it -/
def Net.under (N : Net) (n : Str) : List Str := treeF N (fun n us => n :: us.flatten) 5 n
theorem under_eq (ok : NetOk N) (n : Str) : N.under n = n :: (N.inputs n).flatMap N.under := by
  unfold Net.under
  rw [treeF_eq ok]
  rfl
theorem under_self (ok : NetOk N) (n : Str) : n ∈ N.under n := by rw [under_eq ok]; exact List.mem_cons_self
theorem inputs_len (ok : NetOk N) (n : Str) : (N.inputs n).length ≤ 4 := by
  unfold Net.inputs
  cases e : look N.vws n with
  | none => simp
  | some f =>
    have := (ok.vo.fr _ (look_mem e)).hi
    simpa [Frm.names] using this
theorem flat_len {β : Type} {b : Nat} : ∀ {l : List (List β)}, (∀ x ∈ l, x.length ≤ b) → l.flatten.length ≤ l.length * b
  | [], _ => by simp
  | x :: r, h => by
    have h1 := h x List.mem_cons_self
    have h2 := flat_len (l := r) fun y hy => h y (List.mem_cons_of_mem _ hy)
    rw [List.flatten_cons, List.length_append, List.length_cons, Nat.succ_mul]
    omega
theorem treeU_len (ok : NetOk N) : ∀ k n, (treeF N (fun n us => n :: us.flatten) k n).length ≤ 5 ^ k
  | 0, n => by simp [treeF]
  | k + 1, n => by
    show (n :: ((N.inputs n).map _).flatten).length ≤ _
    have h := flat_len (l := (N.inputs n).map (treeF N (fun n us => n :: us.flatten) k)) (b := 5 ^ k) fun x hx => by
      obtain ⟨t, _, rfl⟩ := List.mem_map.mp hx
      exact treeU_len ok k t
    rw [List.length_map] at h
    have h2 : (N.inputs n).length * 5 ^ k ≤ 4 * 5 ^ k := Nat.mul_le_mul_right _ (inputs_len ok n)
    have h3 : 1 ≤ 5 ^ k := Nat.one_le_pow _ _ (by decide)
    rw [List.length_cons, Nat.pow_succ]
    omega
theorem under_len (ok : NetOk N) (n : Str) : (N.under n).length ≤ 3125 := treeU_len ok 5 n
theorem under_names (ok : NetOk N) : ∀ n, n ∈ N.names → ∀ x ∈ N.under n, x ∈ N.names := by
  refine tree_ind ok fun n ih hn x hx => ?_
  rw [under_eq ok] at hx
  rcases List.mem_cons.mp hx with rfl | hx
  · exact hn
  · obtain ⟨t, ht, hx⟩ := List.mem_flatMap.mp hx
    exact ih t ht (ok.order ht).2.2.1 x hx
/-- all that is below a node, in order -/
def Net.below (N : Net) (n : Str) : List Str := N.names.filter fun x => decide (x ∈ (N.inputs n).flatMap N.under)
theorem mem_below (ok : NetOk N) {n x : Str} : x ∈ N.below n ↔ x ∈ (N.inputs n).flatMap N.under := by
  unfold Net.below
  rw [List.mem_filter]
  refine ⟨fun h => of_decide_eq_true h.2, fun h => ⟨?_, decide_eq_true h⟩⟩
  obtain ⟨t, ht, hx⟩ := List.mem_flatMap.mp h
  exact under_names ok t (ok.order ht).2.2.1 x hx
theorem mem_below_self (ok : NetOk N) {n x : Str} : x ∈ N.below n ++ [n] ↔ x ∈ N.under n := by
  rw [under_eq ok]
  simp only [List.mem_append, List.mem_cons, List.not_mem_nil, or_false, mem_below ok]
  exact Or.comm
end
end Rf
end

set_option Elab.async false
set_option linter.all false
set_option maxRecDepth 100000
set_option maxHeartbeats 4000000
set_option pp.maxSteps 1500
section
open PySem PySem.Spec PyProof.Rows L2
/-! ### rules of my own -/
namespace Rf
section rev
variable {prog : Program} {w : World} {A : Around} {E : Value → Shared → Prop} {s : Shared}
theorem places_down (n : Nat) : Builtin.Slice.slicePlaces ((n : Int) - 1) (-1) (-1) = n := by
  unfold Builtin.Slice.slicePlaces
  rw [if_neg (by decide)]
  by_cases h : ((n : Int) - 1 > -1)
  · rw [if_pos h]
    have : ((n : Int) - 1 - -1 - 1) / (- -1) + 1 = (n : Int) := by
      rw [show (- -1 : Int) = 1 from rfl, Int.ediv_one]
      omega
    rw [this]
    exact Int.toNat_natCast n
  · rw [if_neg h]
    have : n = 0 := by omega
    subst this
    rfl
theorem pick_down (xs : List Value) : ((List.range xs.length).filterMap fun (k : Nat) => xs.toArray[((xs.length : Int) - 1 + (k : Int) * -1).toNat]?) = xs.reverse := by
  have e : ∀ k ∈ List.range xs.length, xs.toArray[((xs.length : Int) - 1 + (k : Int) * -1).toNat]? = some (xs.reverse.getD k .none) := by
    intro k hk
    have hk := List.mem_range.mp hk
    have e1 : ((xs.length : Int) - 1 + (k : Int) * -1).toNat = xs.length - 1 - k := by omega
    rw [e1, List.getElem?_toArray, List.getD_eq_getElem?_getD, List.getElem?_reverse hk, List.getElem?_eq_getElem (by omega)]
    rfl
  have e2 : ∀ l : List Nat, (∀ k ∈ l, xs.toArray[((xs.length : Int) - 1 + (k : Int) * -1).toNat]? = some (xs.reverse.getD k .none)) → (l.filterMap fun (k : Nat) => xs.toArray[((xs.length : Int) - 1 + (k : Int) * -1).toNat]?) = l.map fun k => xs.reverse.getD k .none := by
    intro l
    induction l with
    | nil => intro _; rfl
    | cons a r ih =>
      intro h
      rw [List.filterMap_cons, h a List.mem_cons_self, ih fun k hk => h k (List.mem_cons_of_mem _ hk)]
      rfl
  rw [e2 _ e]
  apply List.ext_getElem?
  intro i
  by_cases h : i < xs.length
  · rw [List.getElem?_map, List.getElem?_range h, Option.map_some, List.getD_eq_getElem?_getD, List.getElem?_eq_getElem (by simpa using h)]
    rfl
  · rw [List.getElem?_eq_none (by simpa using h), List.getElem?_eq_none (by simpa using h)]
theorem getItem_tuple_down {t sl : Addr} {items : List Value} {vl vu vs : Value} {Q : Value → Shared → Prop} (ht : IsTup s.heap t items.toArray) (hs : s.heap.IsSliceOf sl vl vu vs) (pl : IsPart vl none) (pu : IsPart vu none) (ps : IsPart vs (some (-1)))
    (h : Q (.ref s.heap.objs.size) { s with heap := s.heap.push { cls := .type "tuple", data := .seq items.reverse.toArray } }) (hsz : items.length ≤ sizeLine) : wpAny (model prog w) A (getItem (.ref t) (.ref sl)) Q E s := by
  have htake : sizeOk (.seq items.reverse.toArray) := by
    show items.reverse.toArray.size ≤ sizeLine
    rw [List.size_toArray, List.length_reverse]
    exact hsz
  obtain ⟨os, hos, hcs, hds⟩ := id hs
  have hTs : s.TypeIs (.ref sl) "slice" := ⟨os, hos, hcs⟩
  unfold getItem
  try with_reducible refine wpAny_holding ?_
  first | refine wpAny_bind (wpAny_pure ?_) | skip
  refine wpAny_bind (wpAny_sequenceKey ht.typeIs (by decide) ?_)
  refine wpAny_bind (wpAny_callSpecial?_slot (name := Str.ofString "__getitem__") ht.typeIs PyProof.Rows.slot_tuple_getitem
    (wpAny_call_entry PyProof.Rows.slot_tuple_getitem ht.typeIs PyProof.Rows.entry_tuple_getitem ?_ (PyProof.Rows.args_tuple_getitem _ _)))
  show wpAny _ _ (Builtin.Tuple.tupleItemsOf (.ref t) >>= _) _ _ s
  refine wpAny_bind (PyProof.Rows.tupleItemsOf_ ht ?_)
  refine wpAny_bind (wpAny_typeOf hTs ?_)
  rw [if_pos (by decide)]
  refine wpAny_bind ?_
  unfold Builtin.Slice.sliceApplied Builtin.Slice.sliceFields
  refine wpAny_bind (wpAny_bind (wpAny_field hos hds (x := vl) rfl (wpAny_bind (wpAny_field hos hds (x := vu) rfl (wpAny_bind (wpAny_field hos hds (x := vs) rfl (wpAny_pure ?_)))))))
  refine wpAny_bind (HT.slicePart_ ps ?_)
  show wpAny _ _ (if ((-1 : Int) == 0) = true then _ else _) _ _ s
  rw [if_neg (by decide)]
  refine wpAny_bind (HT.slicePart_ pl (wpAny_bind (HT.slicePart_ pu (wpAny_bind (wpAny_pure ?_)))))
  show wpAny _ _ (pure (((items.toArray.size : Nat) : Int) - 1, (-1 : Int), Builtin.Slice.slicePlaces (((items.toArray.size : Nat) : Int) - 1) (-1) (-1))) _ _ s
  rw [places_down]
  refine wpAny_pure ?_
  have hno : ¬ (((((items.toArray.size : Nat) : Int) - 1) == 0 && (-1 : Int) == 1 && items.toArray.size == items.toArray.size) = true) := by
    rw [show ((-1 : Int) == 1) = false from rfl, Bool.and_false, Bool.false_and]
    exact Bool.false_ne_true
  show wpAny _ _ (if (((((items.toArray.size : Nat) : Int) - 1) == 0 && (-1 : Int) == 1 && items.toArray.size == items.toArray.size) = true) then _ else _) _ _ s
  rw [if_neg hno, List.size_toArray, pick_down]
  first
    | exact wpAny_bind (m := Builtin.Tuple.tupleExact _) (wpAny_newObj_type (wpAny_pure ⟨_, rfl, wpAny_pure h⟩) htake)
    | exact wpAny_bind (m := Builtin.Tuple.tupleExact _) (wpAny_newObj_type (wpAny_bind (wpAny_pure (wpAny_pure ⟨_, rfl, wpAny_pure h⟩))) htake)
    | exact wpAny_bind (wpAny_bind (m := Builtin.Tuple.tupleExact _) (wpAny_newObj_type (wpAny_pure (wpAny_pure ⟨_, rfl, wpAny_pure h⟩)) htake))
    | exact wpAny_bind (wpAny_bind (m := Builtin.Tuple.tupleExact _) (wpAny_newObj_type (wpAny_pure ⟨_, rfl, wpAny_pure h⟩) htake))
end rev
/-- t[::-1] of a tuple -/
def tRevT (K : PySem.W.Frag) (te : TE) : TE := fun σ H Q => te σ H fun x H1 => ∃ a xs, x = .ref a ∧ SqT K H1 a xs ∧ ∀ p, H1 p = none → Q (.ref p) (upd H1 p (.tup xs.reverse))
theorem pe_revT {X : Cx} {e : Expr} {te : TE} {k : Nat} {p1 p2 p3 pos : Pos} (he : PE X e te) : PE X (.Subscript e (.Slice none none (some (.UnaryOp .USub (.Constant (.int 1) k p1) p2)) p3) pos) (tRevT X.K te) := by
  refine ⟨fun pins s σ H Q I h => ?_⟩
  refine Subscript_ (thn (he.run pins s σ H _ I h) fun v s1 ⟨x, H1, I1, r1, q1⟩ => ?_)
  obtain ⟨a, xs, ex, hx, q⟩ := q1
  subst ex
  cases r1
  have hst : PO X (some (.UnaryOp .USub (.Constant (.int 1) k p1) p2)) (tPart (tUn (rU fun i => .int (-i)) (tC (.int 1)))) := po_some (pe_un un_neg pe_int)
  refine wpAny_Slice (thn (po_none.run pins s1 σ H1 (fun o H2 => o = none ∧ H2 = H1) I1 ⟨rfl, rfl⟩) fun vl s2 ⟨l, H2, I2, pl, el, e2⟩ => ?_)
  subst el e2
  refine thn (po_none.run pins s2 σ H2 (fun o H3 => o = none ∧ H3 = H2) I2 ⟨rfl, rfl⟩) fun vu s3 ⟨u, H3, I3, pu, eu, e3⟩ => ?_
  subst eu e3
  refine thn (hst.run pins s3 σ H3 (fun o H4 => o = some (-1) ∧ H4 = H3) I3 ⟨1, rfl, -1, rfl, rfl, rfl⟩) fun vs s4 ⟨o, H4, I4, ps, eo, e4⟩ => ?_
  subst eo e4
  have I5 : Inv X pins σ H4 { s4 with heap := s4.heap.push { cls := .type "slice", data := .fields #[vl, vu, vs] } } := I4.kept (t' := s4.toks) fun b ob q => Heap.get?_push_of_some _ q
  obtain ⟨its, r, ht, hz⟩ := I5.tuple hx
  have hlen := r.length
  show wpAny (model X.prog X.w) X.A (subscriptTail e (.Slice none none (some (.UnaryOp .USub (.Constant (.int 1) k p1) p2)) p3) (.ref a) (.ref s4.heap.objs.size)) (EP X pins σ Q) X.xe { s4 with heap := s4.heap.push { cls := .type "slice", data := .fields #[vl, vu, vs] } }
  refine tail_any (ops := [.ref a, .ref s4.heap.objs.size]) ht.typeIs PyProof.Rows.slot_tuple_getitem.lookup ?_ (by with_unfolding_all rfl)
  refine getItem_tuple_down ht (Heap.IsSliceOf.new _ vl vu vs) pl pu ps ?_ (by omega)
  refine ⟨.ref _, _, I5.laid (t' := s4.toks) (o := .tup xs.reverse) (fun b ob q => Heap.get?_push_of_some _ q) (Nat.le_refl _) ?_, rfl, q _ (I5.hok.fresh (Nat.le_refl _))⟩
  exact ⟨by rw [List.length_reverse]; exact hz, _, r.reverse, IsTup.new _ _⟩
/-! ### d.update -/
/-- d.update(e), e another dict -/
theorem mt_update {X : Cx} : MtR X "dict.update" (fun x xs H Q => ∃ (d e : Addr) (k1 k2 : List (Key × V)), x = .ref d ∧ xs = [.ref e] ∧ d ≠ e ∧ H d = some (.dK k1) ∧ Rd H e (.dK k2) ∧ k1.length + k2.length ≤ sizeLine ∧ Q .non (upd H d (.dK (mergeK k1 k2)))) := by
  intro pins s σ H x xs v us Q I rx rs h
  obtain ⟨d, e, k1, k2, rfl, rfl, hne, h1, h2, hz, q⟩ := h
  cases rx
  obtain ⟨u, rfl, ru⟩ := vals1 rs
  cases ru
  obtain ⟨z, hd, vs, rel, dd⟩ := dk_of I.hok h1
  obtain ⟨z2, hd2, vs2, rel2, dd2⟩ := dk_rd I.hok h2
  have hz' : vs.length + vs2.length ≤ sizeLine := by rw [← rel.length, ← rel2.length]; exact hz
  refine call_meetsIn PySem.F.slot_dict_update dd.typeIs PySem.F.entry_dict_update (PySem.F.args_dict_update_2 _ _) (meets_dict_update (mixKind X.prog X.w) d e hne hd2)
    ⟨vs, vs2, dd, dd2, hz', fun h' dd' _ hs => ?_⟩
  have he : ∃ q, h'.get? d = some q := let ⟨q, _, _, hq, _⟩ := dd'; ⟨q, hq⟩
  exact ⟨.non, _, d_write (t' := s.toks) I (by rw [h1]; exact True.intro) hs he (dk_new (Nat.le_trans (length_mergeK k2 k1) hz) hd (rel2.merge rel) dd'), rfl, q⟩
/-- d.update(l), l a list of pairs -/
theorem mt_updateP {X : Cx} (hcalm : X.calm = true) : MtR X "dict.update" (fun x xs H Q => ∃ (d a : Addr) (ps : List Addr) (k1 k2 : List (Key × V)), x = .ref d ∧ xs = [.ref a] ∧ H d = some (.dK k1) ∧ SqL X.K H a (ps.map V.ref) ∧ Paired (fun p kv => SqT X.K H p [kV kv.1, kv.2]) ps k2 ∧
    (∀ p ∈ ps, p ≠ d) ∧ a ≠ d ∧ k1.length + k2.length ≤ sizeLine ∧ Q .non (upd H d (.dK (mergeK k1 k2)))) := by
  intro pins s σ H x xs v us Q I rx rs h
  obtain ⟨d, a, ps, k1, k2, rfl, rfl, h1, hq, hp, hps, ha, hz, q⟩ := h
  cases rx
  obtain ⟨u, rfl, ru⟩ := vals1 rs
  cases ru
  obtain ⟨z, hd, vs, rel, dd⟩ := dk_of I.hok h1
  obtain ⟨its, rv, pl, hz2⟩ := I.list hq
  have ei := refs_at rv
  subst ei
  obtain ⟨o, n, ho, hc, hd2, hdat⟩ := pl
  have hus : ∃ (us : List (Value × Value)) (prs : List (Key × Value)), KV k2 prs ∧ prs.length = ps.length ∧ us.length = ps.length ∧ ∀ (j : Nat) (k v : Value), us[j]? = some (k, v) → ∃ (b : Addr) (c : Key), ps[j]? = some b ∧ IsTup s.heap b #[k, v] ∧ keyIs c k = true ∧ prs[j]? = some (c, v) := by
    have key : ∀ {ps : List Addr} {k2 : List (Key × V)}, Paired (fun p kv => SqT X.K H p [kV kv.1, kv.2]) ps k2 → ∃ (us : List (Value × Value)) (prs : List (Key × Value)), KV k2 prs ∧ prs.length = ps.length ∧ us.length = ps.length ∧
        ∀ (j : Nat) (k v : Value), us[j]? = some (k, v) → ∃ (b : Addr) (c : Key), ps[j]? = some b ∧ IsTup s.heap b #[k, v] ∧ keyIs c k = true ∧ prs[j]? = some (c, v) := by
      intro ps k2 h
      induction h with
      | nil => exact ⟨[], [], .nil, rfl, rfl, fun j k v e => by simp at e⟩
      | cons h t ih =>
        rename_i p kv ps' k2'
        obtain ⟨us, prs, r, hl, hul, hp⟩ := ih
        obtain ⟨its, rv, ht, _⟩ := I.tuple h
        obtain ⟨u, y, ei, ru, ry⟩ := vals2 rv
        subst ei
        refine ⟨(u, y) :: us, (kv.1, y) :: prs, .cons ⟨rfl, ry⟩ r, by rw [List.length_cons, List.length_cons, hl], by rw [List.length_cons, List.length_cons, hul], fun j k v e => ?_⟩
        cases j with
        | zero =>
          cases e
          exact ⟨p, kv.1, rfl, ht, kV_is (P := X.prog) (w := X.w) ru, rfl⟩
        | succ j =>
          obtain ⟨b, c, e1, e2, e3, e4⟩ := hp j k v (by simpa using e)
          exact ⟨b, c, by simpa using e1, e2, e3, by simpa using e4⟩
    exact key hp
  obtain ⟨us, prs, rel2, hl, hul, hus⟩ := hus
  have at' : ∀ (j : Nat) (b : Addr), ps[j]? = some b → ps.getD j 0 = b := fun j b e => by rw [List.getD_eq_getElem?_getD, e]; rfl
  have PA := PairArg.list (prog := X.prog) (w := X.w) a (ps.map Value.ref).toArray (fun j => ps.getD j 0) us
  have hlen2 : k2.length = us.length := by rw [rel2.length, hl, hul]
  refine PySem.call_update_pairs (knd := mixKind X.prog X.w) (acc := vs) (kvs := prs) PA (I.ok.hd hcalm) ⟨⟨o, n, ho, hc, hd2, hdat⟩, by simp [hul], fun j k v e => ?_⟩ ?_ ?_ dd ?_ fun h' tk dd' hk => ?_
  · obtain ⟨b, c, e1, ⟨ob, q1, q2, m, q3⟩, e3, e4⟩ := hus j k v e
    show (ps.map Value.ref).toArray[j]? = some (Value.ref (ps.getD j 0)) ∧ PairAt s.heap (ps.getD j 0) k v
    rw [at' j b e1]
    exact ⟨by simp [e1], .inl ⟨ob, q1, q2, m, q3⟩⟩
  · intro hm
    rcases List.mem_cons.mp hm with hm | hm
    · exact ha hm.symm
    · obtain ⟨j, hj, e⟩ := List.mem_map.mp hm
      have hj' : j < ps.length := by rw [← hul]; exact List.mem_range.mp hj
      have e : ps.getD j 0 = d := e
      rw [at' j _ (List.getElem?_eq_getElem hj')] at e
      exact hps _ (List.getElem_mem hj') e
  · refine ⟨by rw [hl, hul], fun i key v e => ?_⟩
    obtain ⟨b, c, e1, e2, e3, e4⟩ := hus i key v e
    exact ⟨c, e4, e3⟩
  · rw [← rel.length, ← hlen2]
    exact hz
  · have he : ∃ q, h'.get? d = some q := let ⟨q, _, _, hq, _⟩ := dd'; ⟨q, hq⟩
    exact ⟨.non, _, I.write (x := d) (e := d) (t' := tk) (by rw [h1]; exact True.intro) (.inl rfl) (fun b u hb z => hk b u hb (by simp) z) he (dk_new (Nat.le_trans (length_mergeK k2 k1) hz) hd (rel2.merge rel) dd'), rfl, q⟩
end Rf
end

set_option Elab.async false
set_option linter.all false
set_option maxRecDepth 100000
set_option maxHeartbeats 4000000
set_option pp.maxSteps 1500
section
open PySem PySem.Spec PyProof.Rows L2
/-! ### len(set(xs)), xs a list of texts, all distinct -/
namespace Rf
theorem any_take_succ {xs : List Str} {i : Nat} (hi : i < xs.length) (k : Str) : ((xs.take i).any (· == k) || decide (k = xs.getD i Str.empty)) = (xs.take (i + 1)).any (· == k) := by
  have e1 : xs.getD i Str.empty = xs[i] := by rw [List.getD_eq_getElem?_getD, List.getElem?_eq_getElem hi]; rfl
  rw [List.take_add_one, List.getElem?_eq_getElem hi, List.any_append, e1]
  congr 1
  by_cases e : k = xs[i]
  · subst e; simp
  · have hb : (xs[i] == k) = false := by simpa [beq_iff_eq] using (fun h' : xs[i] = k => e h'.symm)
    simp [hb, e]
theorem no_take {xs : List Str} {i : Nat} (nd : xs.Nodup) (hi : i < xs.length) : (xs.take i).any (· == xs.getD i Str.empty) = false := by
  have e1 : xs.getD i Str.empty = xs[i] := by rw [List.getD_eq_getElem?_getD, List.getElem?_eq_getElem hi]; rfl
  rw [e1]
  cases hb : (xs.take i).any (· == xs[i]) with
  | false => rfl
  | true =>
    obtain ⟨y, hy, ey⟩ := List.any_eq_true.mp hb
    have ey2 : y = xs[i] := eq_of_beq ey
    rw [ey2] at hy
    obtain ⟨j, hj⟩ := List.mem_iff_getElem?.mp hy
    rw [List.getElem?_take] at hj
    by_cases hji : j < i
    · rw [if_pos hji] at hj
      obtain ⟨hjl, ej⟩ := List.getElem?_eq_some_iff.mp hj
      exact absurd ej (List.pairwise_iff_getElem.mp nd j i hjl hi hji)
    · rw [if_neg hji] at hj
      cases hj
section
variable {prog : Program} {w : World} {A : Around} {R : Result → Shared → Prop} {I : Addr} {fp wr : List Addr} {G : Array GenState → Array GenState → Prop} {n : Nat} {P : Nat → Value → Prop} {St : Nat → Shared → Prop}
theorem loopTxt (W : WalksS prog w A.in1 I fp wr G n P St) (S : Addr) (hSf : S ∉ fp) (xs : List Str) (hsz : xs.length = n) (hb : n + 1 < scanBound) (nd : xs.Nodup)
    (hval : ∀ i v, P i v → ∃ t, v = .str (xs.getD i Str.empty) t) :
    ∀ (k i : Nat) (s : Shared), n - i = k → i ≤ n → St i s →
      s.heap.SetOf (PySem.strKind prog w) S (fun k' => (xs.take i).any (· == k')) i →
      (∀ s', Moved (S :: wr) G s s' → s'.heap.SetOf (PySem.strKind prog w) S (fun k' => (xs.take n).any (· == k')) n → R (.ok (.ret .none)) s') →
      codeAny (model prog w) A (.builtin "set.update.loop" ⟨[.ref S, .ref I], []⟩) R s := by
  have hSw : S ∉ wr := fun h => hSf (W.sub _ h)
  have hsub : ∀ b ∈ wr, b ∈ S :: wr := fun b hb => List.mem_cons_of_mem _ hb
  intro k
  induction k with
  | zero =>
    intro i s hk hi hst hS hR
    have hin : i = n := by omega
    subst hin
    refine codeAny_builtin PyProof.Rows.F.entry_set_update_loop ?_
    rw [Around.under_plainId PyProof.Rows.F.plain_set_update_loop _]
    show wpAny _ A.in1 (pyNext (.ref I) >>= _) _ _ s
    refine wpAny_bind (W.done s _ _ hst fun s' hm => ?_)
    show wpAny _ A.in1 (ret Value.none) _ _ s'
    exact wpAny_pure (hR s' (hm.mono hsub) (by
      obtain ⟨o, es, ep, t, ho, rest⟩ := hS
      exact ⟨o, es, ep, t, hm.heap S _ hSw ho, rest⟩))
  | succ k ih =>
    intro i s hk hi hst hS hR
    have hlt : i < n := by omega
    refine codeAny_builtin PyProof.Rows.F.entry_set_update_loop ?_
    rw [Around.under_plainId PyProof.Rows.F.plain_set_update_loop _]
    show wpAny _ A.in1 (pyNext (.ref I) >>= _) _ _ s
    refine wpAny_bind (W.item i s _ _ hlt hst fun v s' hP hst' hm => ?_)
    obtain ⟨t, rfl⟩ := hval i v hP
    have hS' : s'.heap.SetOf (PySem.strKind prog w) S (fun k' => (xs.take i).any (· == k')) i := by
      obtain ⟨o, es, ep, tb, ho, rest⟩ := hS
      exact ⟨o, es, ep, tb, hm.heap S _ hSw ho, rest⟩
    show wpAny _ A.in1 (holding [Value.str (xs.getD i Str.empty) t] (setAdd S (.str (xs.getD i Str.empty) t)) >>= _) _ _ s'
    refine wpAny_bind (wpAny_holding ?_)
    unfold setAdd
    refine wpAny_holding ?_
    refine wpAny_bind ((PySem.strKind prog w).pyHash (k := xs.getD i Str.empty) (strKind_is _ _ _ _) ?_)
    refine wpAny_setAddHashed_of (knd := PySem.strKind prog w) (s := { s' with toks := s'.toks + 1 }) (strKind_is _ _ _ _) rfl hS' (by omega) fun h' hsb hS2 => ?_
    have hSi : h'.SetOf (PySem.strKind prog w) S (fun k' => (xs.take (i + 1)).any (· == k')) (i + 1) := by
      have hix : i < xs.length := by omega
      refine SetOf_congr hS2 (fun k' => any_take_succ hix k') (by rw [no_take nd hix]; rfl)
    refine wpAny_pure ⟨plainId_quiet PyProof.Rows.F.plain_set_update_loop _, ih (i + 1) _ (by omega) hlt (W.frame _ s' _ _ hst' (Nat.le_succ _) fun b hb o e => ?_) hSi fun s'' hm'' hS'' => ?_⟩
    · rw [hsb.2 b (fun h : b = S => hSf (by rw [← h]; exact hb))]; exact e
    · refine hR s'' (Moved.trans W.gtrans ((hm.mono hsub).then_heap (Nat.le_succ _) fun b o hb e => ?_) hm'') hS''
      rw [hsb.2 b (fun h : b = S => hb (by rw [h]; exact List.mem_cons_self))]; exact e
end
section
variable {prog : Program} {w : World} {A : Around} {E : Value → Shared → Prop} {s : Shared}
theorem set_of_list {l : Addr} {items : Array Value} {xs : List Str} {Q : Value → Shared → Prop}
    (hh : A.handled = none) (hl : s.heap.IsList l items) (hi : PyProof.Rows.StrsAre items.toList xs) (hn1 : xs.length + 1 < scanBound) (nd : xs.Nodup)
    (h : ∀ (h' : Heap) (tk : Nat), h'.SetOf (PySem.strKind prog w) s.heap.objs.size (fun k' => (xs.take items.size).any (· == k')) items.size →
      (∀ b o, b < s.heap.objs.size → s.heap.get? b = some o → h'.get? b = some o) → Q (.ref s.heap.objs.size) { s with heap := h', toks := tk }) :
    wpAny (model prog w) A (call (.type "set") [.ref l]) Q E s := by
  obtain ⟨c, tl, hmro⟩ := PySem.F.called_set.mro
  have hmade := PySem.F.called_set.made
  have hsub := PySem.F.called_set.sub
  refine wpAny_call (codeAny_of_tree ?_)
  show wpAny _ _ (callAny (.type "set") _) _ _ _
  refine wpAny_pure ⟨Code.quiet_builtin _ (by decide +kernel), codeAny_builtin PySem.F.entry_type_call ?_⟩
  rw [Around.under_plain (weight_type_call_type "set" [.ref l] []) rfl]
  have h1 := PySem.F.called_set.notType
  have h2 := PySem.F.called_set.canCreate
  have hct := PySem.F.typeCall_set_1 (.ref l)
  repeat (any_goals (first | assumption | wp_step))
  refine codeAny_mono (code_set_new_1 (.ref l) (E := E) (Q₁ := fun obj s₁ => ∃ led : Bool, obj = .ref s.heap.objs.size ∧ s₁ = { s with heap := s.heap.push { cls := .type "set", dict := none, data := .set #[] 0 (.fresh 0 0 led) } }) fun led => ⟨led, rfl, rfl⟩) fun r s₁ hr => ?_
  cases r with
  | error e => exact hr
  | ok fl =>
    cases fl with
    | ret obj =>
      obtain ⟨led, rfl, rfl⟩ := hr
      generalize hob : ({ cls := .type "set", dict := none, data := .set #[] 0 (.fresh 0 0 led) } : Obj) = ob
      have hS : (s.heap.push ob).get? s.heap.objs.size = some ob := Heap.get?_push_size _ (by rw [← hob]; rfl)
      have hT : Shared.TypeIs { s with heap := s.heap.push ob } (.ref s.heap.objs.size) "set" := ⟨_, hS, by rw [← hob]⟩
      have hli := PySem.F.called_set.init.lookup
      have hbi := PySem.F.called_set.init.bind (.ref s.heap.objs.size)
      repeat (any_goals (first | assumption | wp_step))
      refine codeAny_mono (codeAny_call_builtin (R := wants (fun r s₂ => r = .none ∧ ∃ h' tk, s₂ = { s with heap := h', toks := tk } ∧
          h'.SetOf (PySem.strKind prog w) s.heap.objs.size (fun k' => (xs.take items.size).any (· == k')) items.size ∧
          (∀ b o, b < s.heap.objs.size → s.heap.get? b = some o → h'.get? b = some o)) E) PySem.F.called_set.init.plain PySem.F.entry_set_init (check_set_init_1 hT ?_)) fun r₂ s₂ hr₂ => ?_
      · obtain ⟨ol, hol, hcl, nl, hdl⟩ := hl
        obtain ⟨ocls, odict, odata, oslots⟩ := ol
        simp only at hcl hdl
        subst hcl; subst hdl
        have hol' : (s.heap.push ob).get? l = some { cls := .type "list", dict := odict, data := .seq items nl, slots := oslots } := Heap.get?_push_of_some _ hol
        have hsls := PySem.F.sub_list_set
        have hslf := PySem.F.sub_list_frozenset
        have hne : (Value.type "list" == Value.type "dict") = false := by decide
        have hl1 : (s.heap.push ob).IsList l items := ⟨_, hol', rfl, nl, rfl⟩
        unfold Builtin.«set.__init__» noKeywords Builtin.Frozenset.updateFrom
        generalize hPI : pyIter = PI
        subst hob
        wp_walk
        subst hPI
        generalize hob : ({ cls := .type "set", dict := none, data := .set #[] 0 (.fresh 0 0 led) } : Obj) = ob at *
        refine wpAny_pyIter_list hl1 ?_
        refine wpAny_bind (wpAny_runValue ?_)
        have hlS : l < s.heap.objs.size := Heap.lt_size hol
        have hh3 : A.in1.in1.in1.handled = none := by simp [hh]
        have hneI : l ≠ (s.heap.push ob).objs.size := by
          rw [Heap.size_push]; exact Nat.ne_of_lt (Nat.lt_succ_of_lt hlS)
        have hSf : s.heap.objs.size ∉ [(s.heap.push ob).objs.size, l] := by
          rw [Heap.size_push]; simp only [List.mem_cons, List.mem_singleton, List.not_mem_nil, or_false, not_or]
          exact ⟨Nat.ne_of_lt (Nat.lt_succ_self _), Nat.ne_of_gt hlS⟩
        have hsz : xs.length = items.size := by rw [← StrsAre.len_eq hi, Array.length_toList]
        have hval : ∀ (i : Nat) (v : Value), items[i]? = some v → ∃ t, v = .str (xs.getD i Str.empty) t := fun i v hv => SS.strs_at hi i v (by rw [Array.getElem?_toList]; exact hv)
        refine loopTxt ((Walks.list hh3 _ l hneI items).toS) s.heap.objs.size
          hSf xs hsz (by rw [← hsz]; exact hn1) nd hval (items.size - 0) 0 _ (by omega) (Nat.zero_le _)
          ⟨⟨_, Heap.get?_push_size _ rfl, rfl, rfl⟩, (hl1.push _)⟩ ?hS0 ?hR
        case hS0 =>
          subst hob
          exact PyProof.Rows.SetOf_congr ((PyProof.Rows.setObjOf_fresh (knd := PySem.strKind prog w) led).setOf (Heap.get?_push_of_some _ hS) (by unfold scanBound; omega)) (fun _ => rfl) rfl
        case hR =>
          intro s' hm hS'
          obtain ⟨h', g', d', tk', os'⟩ := s'
          have eg : g' = s.gens := hm.gens
          have ed : d' = s.drawn := hm.drawn
          have eo : os' = s.os := hm.os
          subst eg; subst ed; subst eo
          show wpAny _ _ _ _ _ _
          refine wpAny_pure ?_
          show wpAny _ _ (ret Value.none) _ _ _
          refine wpAny_pure ⟨rfl, h', tk', rfl, hS', fun b o hb e => ?_⟩
          have hb1 : b ≠ s.heap.objs.size := Nat.ne_of_lt hb
          have hb2 : b ≠ (s.heap.push ob).objs.size := by
            rw [Heap.size_push]; exact Nat.ne_of_lt (Nat.lt_succ_of_lt hb)
          exact hm.heap b o (by simp only [List.mem_cons, List.mem_singleton, List.not_mem_nil, or_false, not_or]; exact ⟨hb1, hb2⟩) (Heap.get?_push_of_some _ (Heap.get?_push_of_some _ e))
      · cases r₂ with
        | error e => exact hr₂
        | ok fl₂ =>
          cases fl₂ with
          | ret r =>
            obtain ⟨rfl, h', tk, rfl, hS', hk'⟩ := hr₂
            repeat (any_goals (first | assumption | wp_step))
            exact h _ _ hS' hk'
          | _ => exact hr₂.elim
    | _ => exact hr.elim
end
def tLenSetS (K : PySem.W.Frag) (ta : TE) : TE := fun σ H Q => ta σ H fun x H1 => ∃ (l : Addr) (xs : List Str), x = .ref l ∧ SqL K H1 l (xs.map V.str) ∧ xs.Nodup ∧ xs.length ≤ 1000 ∧ Q (.int (xs.length : Nat)) H1
theorem pe_lenSetS {X : Cx} {a : Expr} {ta : TE} {p p2 q pos : Pos} (hg : Gl X "len") (hm : X.mg "len" = none) (hg2 : Gl X "set") (hm2 : X.mg "set" = none) (ha : PE X a ta) (hc : X.calm = true := by rfl)
    (na : starEach [a] X.env = (false, eval a X.env) :: starEach [] X.env := by rfl) : PE X (.Call (.Name "len" p) [.Call (.Name "set" p2) [a] [] q] [] pos) (tLenSetS X.K ta) := by
  refine ⟨fun pins s σ H Q I h => ?_⟩
  refine Call_ (ld_blt I hg hm boot_len ?_)
  refine PyProof.Rows.callWith_builtin1 (PyProof.Rows.args_cons ?_ rfl) rfl rfl
  refine Call_ (ld_blt I hg2 hm2 boot_set ?_)
  refine PyProof.Rows.callWith_type1 (PyProof.Rows.args_cons (thn (ha.run pins s σ H _ I h) fun v s1 ⟨x, H1, I1, r1, q1⟩ => PyProof.Rows.args_nil ?_) na) na rfl
  obtain ⟨l, xs, rfl, hq, hnd, hl, q1⟩ := q1
  cases r1
  obtain ⟨its, r, pl, hz⟩ := I1.list hq
  have hlen : its.toArray.size = xs.length := by rw [List.size_toArray, ← r.length, List.length_map]
  refine set_of_list (I1.ok.hd hc) pl.isList (by simpa using strsAre_of r) (by unfold scanBound; omega) hnd fun h' tk hS hk => ?_
  refine PyProof.Rows.args_nil ?_
  rw [hlen] at hS
  obtain ⟨o, es, ep, t, ho, hex, hd, _, _, _, hf, hn⟩ := hS
  have I2 : Inv X pins σ H1 { s1 with heap := h', toks := tk } := I1.kept fun b o e => hk b o (Heap.lt_size e) e
  exact call_len_set ho hex hd hf (by rw [hn] <;> omega) ⟨.int xs.length, H1, I2.tok _, ⟨_, by rw [hn]⟩, q1⟩
end Rf
end

set_option Elab.async false
set_option linter.all false
set_option maxRecDepth 100000
set_option maxHeartbeats 4000000
set_option pp.maxSteps 1500
section
open PySem PySem.Spec PyProof.Rows L2 Rf
local macro_rules | `(tactic| walk_at "up") => `(tactic| first | assumption | exact Ex.refl _ | exact upd_same | (apply upd_at; (focus assumption); walk_at "up") | (apply upd_at'; (focus assumption); walk_at "up") | (apply Ex.mutL; (focus (walk_at "up")); (focus (walk_at "up")); walk_at "up") | (apply Ex.mutD; (focus (walk_at "up")); (focus (walk_at "up")); walk_at "up") | (apply Ex.free'; (focus assumption); walk_at "up") | (apply Ex.atT; (focus assumption); walk_at "up") | (apply Ex.atL; (focus assumption); walk_at "up") | (apply Ex.atD; (focus assumption); walk_at "up") | (apply Ex.atI; (focus assumption); walk_at "up") | (apply Ex.atF; (focus assumption); walk_at "up") | (apply Ex.then'; (focus assumption); walk_at "up") | (apply NetAt.ex; (focus assumption); walk_at "up") | (apply PartsAt.ex; (focus assumption); walk_at "up") | (apply PlanAt.ex; (focus assumption); walk_at "up") | (apply QrsAt.ex; (focus assumption); walk_at "up") | (apply SrcD.ex; (focus assumption); walk_at "up") | (apply VwD.ex; (focus assumption); walk_at "up") | (apply SeqIs.ex; (focus assumption); walk_at "up") | (apply NetAt.ex'; (focus assumption); walk_at "up") | (apply PartsAt.ex'; (focus assumption); walk_at "up") | (apply PlanAt.ex'; (focus assumption); walk_at "up") | (apply QrsAt.ex'; (focus assumption); walk_at "up") | (apply SrcD.ex'; (focus assumption); walk_at "up") | (apply VwD.ex'; (focus assumption); walk_at "up") | (apply SeqIs.ex'; (focus assumption); walk_at "up") | (apply Ex.atT'; (focus assumption); walk_at "up") | (apply Ex.atL'; (focus assumption); walk_at "up") | (apply Ex.atD'; (focus assumption); walk_at "up") | (apply Ex.atI'; (focus assumption); walk_at "up") | (with_reducible apply FrmAt.ex'; (focus assumption); walk_at "up") | (with_reducible apply VwAt.ex'; (focus assumption); walk_at "up") | (with_reducible apply RowAt.ex'; (focus assumption); walk_at "up") | (with_reducible apply SrcAt.ex'; (focus assumption); walk_at "up") | (with_reducible apply QryAt.ex'; (focus assumption); walk_at "up") | (with_reducible apply Rows.ex'; (focus assumption); walk_at "up") | (with_reducible apply StAt.exE; (focus assumption); walk_at "up") | (with_reducible apply sqU; (focus assumption); assumption) | (with_reducible apply sqE; (focus assumption); walk_at "up") | (with_reducible apply sqM; (focus assumption); (focus (walk_at "ne")); walk_at "up") | (with_reducible apply Ex.tabs'; (focus assumption); walk_at "up") | (with_reducible apply Ex.thenM; (focus assumption); (focus (walk_at "up")); walk_at "up") | (with_reducible apply Ex.thenMM; (focus assumption); walk_at "up") | (with_reducible apply atML; (focus assumption); (focus (walk_at "ne")); walk_at "up") | (with_reducible apply atMD; (focus assumption); (focus (walk_at "ne")); walk_at "up") | (with_reducible apply atMT; (focus assumption); (focus (walk_at "ne")); walk_at "up"))
local macro_rules | `(tactic| walk_at "ne") => `(tactic| first | assumption | (apply ne_st; (focus assumption); (walk_at "up")))
local macro_rules | `(tactic| walk_at "sv") => `(tactic| first | rfl | assumption | exact Ex.refl _ | exact ClsV.ty _ | (apply TyX.base; first | exact TyOf.int _ | exact TyOf.str _ | exact TyOf.bl _ | (apply TyOf.tup; walk_at "up") | (apply TyOf.lst; walk_at "up") | (apply TyOf.dK; walk_at "up")) | exact kit_ty (by decide +kernel) | (apply Rd.of; walk_at "up") | (apply DGet_some; (focus (walk_at "up")); assumption) | (apply DGet_f; (focus (walk_at "up")); assumption) | (apply DGet_s; walk_at "up") | (apply DPut_s; (focus (walk_at "up")); omega) | (apply sz5; simp only [List.length_map, List.length_append, List.length_cons, List.length_nil]; omega) | (apply sz4; simp only [List.length_map, List.length_append, List.length_cons, List.length_nil]; omega) | (apply SqL.of; walk_at "up") | (apply SqT.of; walk_at "up") | (apply Or.inl; apply SqL.of; walk_at "up") | (apply Or.inr; apply SqT.of; walk_at "up") | (apply Exists.intro; first | (apply SqL.of; walk_at "up") | (apply SqT.of; walk_at "up")) | exact flatStrs _ | (apply dp_nil; walk_at "up") | (apply dp_strs; walk_at "up") | (apply dp_ints; walk_at "up") | (apply dp_row; walk_at "up") | (apply dp_rowL; walk_at "up") | (apply dp_rows; (focus (walk_at "up")); walk_at "up") | exact shaped_nil | exact shaped_ints | (apply shaped_strs; assumption) | (apply shaped_rows; assumption) | (apply shaped_row; assumption) | (with_reducible apply RowAt.mk; walk_at "up") | (apply tyL; walk_at "up") | (apply tyD; walk_at "up") | (with_reducible apply cmul_r; constructor <;> omega) | (with_reducible apply cmul_l; constructor <;> omega) | (with_reducible apply cdiv_i; constructor <;> omega) | walk_at "up" | (with_reducible apply ne_st; (focus assumption); walk_at "up") | omega | (dsimp only; omega) | decide | (simp only [List.length_map, List.length_append, List.length_cons, List.length_nil]; omega))
local macro_rules | `(tactic| walk_at "cn") => `(tactic| first | assumption | omega | (dsimp only; omega) | (simp only [List.length_map, List.length_append, List.length_cons, List.length_nil, List.length_reverse]; omega) | decide)
local macro_rules | `(tactic| walk_at "rd") => `(tactic| first
  | (with_reducible show LcGo _ _ _ _ _ _ _ _)
  | (with_reducible show DcGo _ _ _ _ _ _ _ _ _)
  | (with_reducible show ForGo _ _ _ _ _ _)
  | (refine allocI (fun p hp => ?_); generalize hh : upd _ _ _ = H2; have e := exNew (T := ‹Tb›) hh hp; have h := updAt hh; clear hh; walk_at "rd")
  | (apply And.intro; (focus (walk_at "sv")); walk_at "rd")
  | (apply Exists.intro; walk_at "rd")
  | (refine iteY ?_ ?_; (focus (walk_at "cn")); walk_at "rd")
  | (refine iteN ?_ ?_; (focus (walk_at "cn")); walk_at "rd")
  | (refine iteY' ?_ ?_; (focus (walk_at "cn")); walk_at "rd")
  | (refine iteN' ?_ ?_; (focus (walk_at "cn")); walk_at "rd")
  | (refine iteBt ?_ ?_; (focus (first | assumption | decide +kernel)); walk_at "rd")
  | (refine iteBf ?_ ?_; (focus (first | assumption | decide +kernel)); walk_at "rd")
  | (intro _; walk_at "rd") | skip)
namespace Rf
section
variable {P : Program} {w : World} {K : PySem.W.Frag} {mg : Str → Option Value} {base : Heap} {C : Addr} (TT : Tb)
def sp_is_integer : Sp := fun vs H Q _ => ∃ i lo hi : Int, vs = [.int i, .int lo, .int hi] ∧ Q (.bl (decide (lo ≤ i ∧ i ≤ hi))) H
theorem cal_is_integer (T : Tx K mg C) (D : DefB K mg "is_integer" s_is_integer ["value", "low", "high"]) : C8.Cal P w K mg base 1 "is_integer" sp_is_integer [] := by
  refine cal_of D sc_is_integer (fun vs H Q E h => by obtain ⟨_, _, _, rfl, _⟩ := h; rfl) (fun f cdv A outer s H vs Q E hr h => ?_)
  obtain ⟨i, lo, hi, rfl, k⟩ := h
  have nd := sc_is_integer.nd
  refine ⟨_, (pss_one (ps_ret (pe_and (pe_callB call_isi (by rfl) T.n_isinstance (by decide +kernel) (pa_cons (pv 0) (pa_cons (pe_bltn (v := .ty "int") (by rfl) T.n_int (by decide +kernel) rfl) pa_nil))) (pe_and (pe_not (pe_callB call_isi (by rfl) T.n_isinstance (by decide +kernel) (pa_cons (pv 0) (pa_cons (pe_bltn (v := .ty "bool") (by rfl) T.n_bool (by decide +kernel) rfl) pa_nil)))) (pe_one (pe_chain op_le op_le (pv 1) (pv 0) (pv 2))))))), ?_⟩
  walk_at "rd"
  refine ite2 (fun h1 => ?_) (fun h1 => ?_)
  · walk_at "rd"
    have e : decide (i ≤ hi) = decide (lo ≤ i ∧ i ≤ hi) := by simp at h1; simp [h1]
    show Q (.bl (decide (i ≤ hi))) H
    rw [e]
    exact k
  · have e : false = decide (lo ≤ i ∧ i ≤ hi) := by simp at h1; simp; omega
    show Q (.bl false) H
    rw [e]
    exact k

def sp_is_name : Sp := fun vs H Q _ => ∃ x : Str, vs = [.str x] ∧ Good x ∧ ∀ H', Ex TT H H' → Q (.bl true) H'
theorem cal_is_name (T : Tx K mg C) (D : DefB K mg "is_name" s_is_name ["value"]) : C8.Cal P w K mg base 1 "is_name" (sp_is_name TT) [] := by
  refine cal_of D sc_is_name (fun vs H Q E h => by obtain ⟨_, rfl, _⟩ := h; rfl) (fun f cdv A outer s H vs Q E hr h => ?_)
  obtain ⟨x, rfl, g, k⟩ := h
  have nd := sc_is_name.nd
  have hl : x.length ≤ sizeLine := sz5 (by have := g.hi; omega)
  have h1 : 1 ≤ (x.length : Int) := by have := g.lo; omega
  have h8 : (x.length : Int) ≤ 8 := by have := g.hi; omega
  refine ⟨_, (pss_one (ps_ret (pe_and (pe_callB call_isi (by rfl) T.n_isinstance (by decide +kernel) (pa_cons (pv 0) (pa_cons (pe_bltn (v := .ty "str") (by rfl) T.n_str (by decide +kernel) rfl) pa_nil))) (pe_and (pe_chain op_le op_le pe_int (pe_callB call_len_str (by rfl) T.n_len (by decide +kernel) (pa_cons (pv 0) pa_nil)) (C8.pe_gc (v := .int 8) (by rfl) T.c_MAX_NAME)) (pe_one (pe_callB (cr_all rfl) (by rfl) T.n_all (by decide +kernel) (pa_cons (lcX (pe_lc (g := (gName 1)) rfl nd (pi_str (pv 0)) (blkOk_by (own := [("sign", 1)]) (N := N_is_name) (sc := C8.fnScope s_is_name) (by decide +kernel)) (fun _ _ _ _ _ => (pg_name (i := 1) nd rfl (Or.inl rfl) (by first | exact Or.inr rfl | exact Or.inl rfl))) (fun _ _ _ _ _ => pts_nil) (fun _ _ _ _ _ => (pe_cmpR op_in_sign (pv 1) (C8.pe_gc (v := .str "abcdefghijklmnopqrstuvwxyz") (by rfl) T.c_LETTERS) rfl)))) pa_nil))))))), ?_⟩
  walk_at "rd"
  refine lc_mapL (T := TT) x.cps.toList (fun _ => true) (fun _ y _ => y = V.bl true) (fun _ _ _ _ _ h => h) (by rw [Array.length_toList]; exact walk_str) (by have := g.hi; unfold Str.length at this; rw [Array.length_toList]; omega) (fun _ _ => trivial) ?_ ?_
  · intro i c y Hc Hc' K1 K0 hi e yy k1 k0
    obtain ⟨rfl, c', hc', rfl⟩ := yy
    have hcm : c ∈ lettersS.cps.toList := g.sg c (List.mem_of_getElem? hi)
    have ecc : c' = c := by
      rw [Array.getElem?_toList, hc'] at hi
      exact Option.some.inj hi
    subst ecc
    walk_at "rd"
    refine k1 rfl _ _ (Ex.refl _) ?_
    rw [show decide (c' ∈ (Str.ofString "abcdefghijklmnopqrstuvwxyz").cps.toList) = true from decide_eq_true hcm]
  · intro Dl ys H2 hD e hd q
    rw [filt_true] at q
    have eq := bools_of (f := fun _ => true) q
    subst eq
    refine ⟨_, _, rfl, SqL.of hd, ?_⟩
    show Q (V.bl _) _
    rw [all_true (fun _ _ => rfl)]
    exact k _ e

def sp_is_pair : Sp := fun vs H Q _ => ∃ p xs, vs = [.ref p] ∧ H p = some (.tup xs) ∧ Q (.bl (decide (xs.length = 2))) H
theorem cal_is_pair (T : Tx K mg C) (D : DefB K mg "is_pair" s_is_pair ["value"]) : C8.Cal P w K mg base 1 "is_pair" sp_is_pair [] := by
  refine cal_of D sc_is_pair (fun vs H Q E h => by obtain ⟨_, _, rfl, _⟩ := h; rfl) (fun f cdv A outer s H vs Q E hr h => ?_)
  obtain ⟨p, xs, rfl, hp, k⟩ := h
  have nd := sc_is_pair.nd
  refine ⟨_, (pss_one (ps_ret (pe_and (pe_callB call_isi (by rfl) T.n_isinstance (by decide +kernel) (pa_cons (pv 0) (pa_cons (pe_bltn (v := .ty "tuple") (by rfl) T.n_tuple (by decide +kernel) rfl) pa_nil))) (pe_one (pe_cmpR op_eq (pe_callB call_len_seq (by rfl) T.n_len (by decide +kernel) (pa_cons (pv 0) pa_nil)) pe_int (nomark _)))))), ?_⟩
  walk_at "rd"
  have e : decide (V.int (xs.length : Int) = V.int 2) = decide (xs.length = 2) := by
    rw [decide_eq_decide, V.int.injEq]
    omega
  show Q (V.bl _) _
  rw [e]
  exact k

def sp_is_source : Sp := fun vs H Q _ => ∃ x s v, vs = [.str x, v] ∧ SrcOk (x, s) ∧ SrcAt H v s ∧ ∀ H', Ex TT H H' → Q (.bl true) H'
theorem cal_is_source (T : Tx K mg C) (D : DefB K mg "is_source" s_is_source ["name", "value"]) (c_is_name : C8.Cal P w K mg base 1 "is_name" (sp_is_name TT) []) (c_is_pair : C8.Cal P w K mg base 1 "is_pair" sp_is_pair []) (c_is_integer : C8.Cal P w K mg base 1 "is_integer" sp_is_integer []) : C8.Cal P w K mg base 2 "is_source" (sp_is_source TT) [] := by
  refine cal_of D sc_is_source (fun vs H Q E h => by obtain ⟨_, _, _, rfl, _⟩ := h; rfl) (fun f cdv A outer s H vs Q E hr h => ?_)
  obtain ⟨x, ⟨d, c⟩, v, rfl, ok, ⟨p, rfl, hp⟩, k⟩ := h
  have nd := sc_is_source.nd
  have ok1 : Good x := ok.nm
  refine ⟨_, (pss_cons (ps_if (PW.pt (pw_or (pt_not (pt_val (C8.pe_c c_is_name hr (by first | decide | omega) (by rfl) (pa_cons (pv 0) pa_nil)))) (pw_or1 (pt_not (pt_val (C8.pe_c c_is_pair hr (by first | decide | omega) (by rfl) (pa_cons (pv 1) pa_nil))))))) (pss_one (ps_ret pe_bl)) pss_nil)
      (pss_one (ps_ret (pe_and (C8.pe_c c_is_integer hr (by first | decide | omega) (by rfl) (pa_cons (pe_ix ix_tup (pv 1) pe_int (fun _ _ => rfl)) (pa_cons pe_int (pa_cons (C8.pe_gc (v := .int 20) (by rfl) T.c_MAX_DRIFT) pa_nil)))) (pe_one (C8.pe_c c_is_integer hr (by first | decide | omega) (by rfl) (pa_cons (pe_ix ix_tup (pv 1) pe_int (fun _ _ => rfl)) (pa_cons pe_int (pa_cons (C8.pe_gc (v := .int 9) (by rfl) T.c_MAX_COST) pa_nil))))))))), ?_⟩
  have d2 : 0 ≤ d ∧ d ≤ 20 := ⟨ok.d0, ok.d1⟩
  have c2 : decide (1 ≤ c ∧ c ≤ 9) = true := decide_eq_true ⟨ok.c0, ok.c1⟩
  walk_at "rd"
  show Q (V.bl (decide (1 ≤ c ∧ c ≤ 9))) _
  rw [c2]
  exact k _ ‹_›

def sp_is_term : Sp := fun vs H Q _ => ∃ p i v, vs = [.ref p] ∧ H p = some (.tup [.int i, v]) ∧ -5 ≤ i ∧ i ≤ 5 ∧ i ≠ 0 ∧ Q (.bl true) H
theorem cal_is_term (T : Tx K mg C) (D : DefB K mg "is_term" s_is_term ["value"]) (c_is_pair : C8.Cal P w K mg base 1 "is_pair" sp_is_pair []) (c_is_integer : C8.Cal P w K mg base 1 "is_integer" sp_is_integer []) : C8.Cal P w K mg base 2 "is_term" sp_is_term [] := by
  refine cal_of D sc_is_term (fun vs H Q E h => by obtain ⟨_, _, _, rfl, _⟩ := h; rfl) (fun f cdv A outer s H vs Q E hr h => ?_)
  obtain ⟨p, i, v, rfl, hp, i0, i1, i2, k⟩ := h
  have nd := sc_is_term.nd
  have d2 : -5 ≤ i ∧ i ≤ 5 := ⟨i0, i1⟩
  refine ⟨_, (pss_one (ps_ret (pe_and (C8.pe_c c_is_pair hr (by first | decide | omega) (by rfl) (pa_cons (pv 0) pa_nil)) (pe_and (C8.pe_c c_is_integer hr (by first | decide | omega) (by rfl) (pa_cons (pe_ix ix_tup (pv 0) pe_int (fun _ _ => rfl)) (pa_cons (pe_un un_neg (C8.pe_gc (v := .int 5) (by rfl) T.c_MAX_FACTOR)) (pa_cons (C8.pe_gc (v := .int 5) (by rfl) T.c_MAX_FACTOR) pa_nil)))) (pe_one (pe_cmpR op_ne (pe_ix ix_tup (pv 0) pe_int (fun _ _ => rfl)) pe_int (nomark _))))))), ?_⟩
  walk_at "rd"
  have e : decide (V.int i = V.int 0) = false := decide_eq_false (fun z => i2 (by cases z; rfl))
  show Q (V.bl (!decide (V.int i = V.int 0))) _
  rw [e]
  exact k
/-- the names of a formula's inputs, a new list -/
def sp_inputs_of : Sp := fun vs H Q _ => ∃ v f, vs = [v] ∧ FrmAt H v f ∧ f.ins.length ≤ 1000 ∧ ∀ p H', Ex TT H H' → H p = none → H' p = some (.lst (f.names.map V.str)) → Q (.ref p) H'
theorem cal_inputs_of (T : Tx K mg C) (D : DefB K mg "inputs_of" s_inputs_of ["formula"]) : C8.Cal P w K mg base 1 "inputs_of" (sp_inputs_of TT) [] := by
  refine cal_of D sc_inputs_of (fun vs H Q E h => by obtain ⟨_, _, rfl, _⟩ := h; rfl) (fun fa cdv A outer s H vs Q E hr h => ?_)
  obtain ⟨v, f, rfl, ⟨p, u, rfl, hp, ⟨q, xs, rfl, hq, hx⟩⟩, hl, k⟩ := h
  have nd := sc_inputs_of.nd
  refine ⟨_, (pss_cons (ps_if (pt_cmpR op_eq (pe_ix ix_tup (pv 0) pe_int (fun _ _ => rfl)) pe_str (nomark _)) (pss_one (ps_ret (lcX (pe_lc (g := (gTup K 2 (gCons (gName 1) (gCons (gName 2) gNil)))) rfl nd (pi_tup (pe_ix ix_tup (pv 0) pe_int (fun _ _ => rfl))) (blkOk_by (own := [("factor", 1), ("name", 2)]) (N := N_inputs_of) (sc := C8.fnScope s_inputs_of) (by decide +kernel)) (fun _ _ _ _ _ => (pg_tup rfl (pgs_cons (pg_name (i := 1) nd rfl (Or.inl rfl) (by first | exact Or.inr rfl | exact Or.inl rfl)) (pgs_cons (pg_name (i := 2) nd rfl (Or.inl rfl) (by first | exact Or.inr rfl | exact Or.inl rfl)) pgs_nil)))) (fun _ _ _ _ _ => pts_nil) (fun _ _ _ _ _ => (pv 2)))))) pss_nil)
      (pss_one (ps_ret (pe_callTy call_list_of (by rfl) T.n_list (by decide +kernel) (pa_cons (pe_ix ix_tup (pv 0) pe_int (fun _ _ => rfl)) pa_nil))))), ?_⟩
  walk_at "rd"
  rcases hx with ⟨hw, hx⟩ | ⟨hw, hx⟩
  · have hw' : V.str f.word = V.str "sum" := by rw [hw]
    walk_at "rd"
    refine lc_tupP (T := TT) f.ins (RowAt H) hq hx (by omega) (fun _ => true) (fun _ y t => y = V.str t.2) (fun _ _ _ _ _ h => h) ?_ ?_
    · intro t x Hc K1 K0 hm ⟨r, er, hr⟩ e k1 k0
      subst er
      walk_at "rd"
      exact k1 rfl _ _ (Ex.refl _) rfl
    · intro Dl ys H2 hD e hd qq
      rw [filt_true] at qq
      have eq : ys = f.names.map V.str := by
        rw [Paired.fn (f := fun t : Int × Str => V.str t.2) qq]
        unfold Frm.names
        rw [List.map_map]
        rfl
      subst eq
      exact k _ _ e hD hd
  · have hw' : ¬ V.str f.word = V.str "sum" := fun z => hw (V.str.inj z)
    walk_at "rd"
    subst hx
    exact k _ _ ‹_› ‹_› ‹_›
end
end Rf
end

set_option Elab.async false
set_option linter.all false
set_option maxRecDepth 100000
set_option maxHeartbeats 4000000
set_option pp.maxSteps 1500
section
open PySem PySem.Spec PyProof.Rows L2 Rf
local macro_rules | `(tactic| walk_at "up") => `(tactic| first | assumption | exact Ex.refl _ | exact upd_same | (apply upd_at; (focus assumption); walk_at "up") | (apply upd_at'; (focus assumption); walk_at "up") | (apply Ex.mutL; (focus (walk_at "up")); (focus (walk_at "up")); walk_at "up") | (apply Ex.mutD; (focus (walk_at "up")); (focus (walk_at "up")); walk_at "up") | (apply Ex.free'; (focus assumption); walk_at "up") | (apply Ex.atT; (focus assumption); walk_at "up") | (apply Ex.atL; (focus assumption); walk_at "up") | (apply Ex.atD; (focus assumption); walk_at "up") | (apply Ex.atI; (focus assumption); walk_at "up") | (apply Ex.atF; (focus assumption); walk_at "up") | (apply Ex.then'; (focus assumption); walk_at "up") | (apply NetAt.ex; (focus assumption); walk_at "up") | (apply PartsAt.ex; (focus assumption); walk_at "up") | (apply PlanAt.ex; (focus assumption); walk_at "up") | (apply QrsAt.ex; (focus assumption); walk_at "up") | (apply SrcD.ex; (focus assumption); walk_at "up") | (apply VwD.ex; (focus assumption); walk_at "up") | (apply SeqIs.ex; (focus assumption); walk_at "up") | (apply NetAt.ex'; (focus assumption); walk_at "up") | (apply PartsAt.ex'; (focus assumption); walk_at "up") | (apply PlanAt.ex'; (focus assumption); walk_at "up") | (apply QrsAt.ex'; (focus assumption); walk_at "up") | (apply SrcD.ex'; (focus assumption); walk_at "up") | (apply VwD.ex'; (focus assumption); walk_at "up") | (apply SeqIs.ex'; (focus assumption); walk_at "up") | (apply Ex.atT'; (focus assumption); walk_at "up") | (apply Ex.atL'; (focus assumption); walk_at "up") | (apply Ex.atD'; (focus assumption); walk_at "up") | (apply Ex.atI'; (focus assumption); walk_at "up") | (with_reducible apply FrmAt.ex'; (focus assumption); walk_at "up") | (with_reducible apply VwAt.ex'; (focus assumption); walk_at "up") | (with_reducible apply RowAt.ex'; (focus assumption); walk_at "up") | (with_reducible apply SrcAt.ex'; (focus assumption); walk_at "up") | (with_reducible apply QryAt.ex'; (focus assumption); walk_at "up") | (with_reducible apply Rows.ex'; (focus assumption); walk_at "up") | (with_reducible apply StAt.exE; (focus assumption); walk_at "up") | (with_reducible apply sqU; (focus assumption); assumption) | (with_reducible apply sqE; (focus assumption); walk_at "up") | (with_reducible apply sqM; (focus assumption); (focus (walk_at "ne")); walk_at "up") | (with_reducible apply Ex.tabs'; (focus assumption); walk_at "up") | (with_reducible apply Ex.thenM; (focus assumption); (focus (walk_at "up")); walk_at "up") | (with_reducible apply Ex.thenMM; (focus assumption); walk_at "up") | (with_reducible apply atML; (focus assumption); (focus (walk_at "ne")); walk_at "up") | (with_reducible apply atMD; (focus assumption); (focus (walk_at "ne")); walk_at "up") | (with_reducible apply atMT; (focus assumption); (focus (walk_at "ne")); walk_at "up"))
local macro_rules | `(tactic| walk_at "ne") => `(tactic| first | assumption | (apply ne_st; (focus assumption); (walk_at "up")))
local macro_rules | `(tactic| walk_at "sv") => `(tactic| first | rfl | assumption | exact Ex.refl _ | exact ClsV.ty _ | (apply TyX.base; first | exact TyOf.int _ | exact TyOf.str _ | exact TyOf.bl _ | (apply TyOf.tup; walk_at "up") | (apply TyOf.lst; walk_at "up") | (apply TyOf.dK; walk_at "up")) | exact kit_ty (by decide +kernel) | (apply Rd.of; walk_at "up") | (apply DGet_some; (focus (walk_at "up")); assumption) | (apply DGet_f; (focus (walk_at "up")); assumption) | (apply DGet_s; walk_at "up") | (apply DPut_s; (focus (walk_at "up")); omega) | (apply sz5; simp only [List.length_map, List.length_append, List.length_cons, List.length_nil]; omega) | (apply sz4; simp only [List.length_map, List.length_append, List.length_cons, List.length_nil]; omega) | (apply SqL.of; walk_at "up") | (apply SqT.of; walk_at "up") | (apply Or.inl; apply SqL.of; walk_at "up") | (apply Or.inr; apply SqT.of; walk_at "up") | (apply Exists.intro; first | (apply SqL.of; walk_at "up") | (apply SqT.of; walk_at "up")) | exact flatStrs _ | (apply dp_nil; walk_at "up") | (apply dp_strs; walk_at "up") | (apply dp_ints; walk_at "up") | (apply dp_row; walk_at "up") | (apply dp_rowL; walk_at "up") | (apply dp_rows; (focus (walk_at "up")); walk_at "up") | exact shaped_nil | exact shaped_ints | (apply shaped_strs; assumption) | (apply shaped_rows; assumption) | (apply shaped_row; assumption) | (with_reducible apply RowAt.mk; walk_at "up") | (apply tyL; walk_at "up") | (apply tyD; walk_at "up") | (with_reducible apply cmul_r; constructor <;> omega) | (with_reducible apply cmul_l; constructor <;> omega) | (with_reducible apply cdiv_i; constructor <;> omega) | walk_at "up" | (with_reducible apply ne_st; (focus assumption); walk_at "up") | omega | (dsimp only; omega) | decide | (simp only [List.length_map, List.length_append, List.length_cons, List.length_nil]; omega))
local macro_rules | `(tactic| walk_at "cn") => `(tactic| first | assumption | omega | (dsimp only; omega) | (simp only [List.length_map, List.length_append, List.length_cons, List.length_nil, List.length_reverse]; omega) | decide)
local macro_rules | `(tactic| walk_at "rd") => `(tactic| first
  | (with_reducible show LcGo _ _ _ _ _ _ _ _)
  | (with_reducible show DcGo _ _ _ _ _ _ _ _ _)
  | (with_reducible show ForGo _ _ _ _ _ _)
  | (refine allocI (fun p hp => ?_); generalize hh : upd _ _ _ = H2; have e := exNew (T := ‹Tb›) hh hp; have h := updAt hh; clear hh; walk_at "rd")
  | (apply And.intro; (focus (walk_at "sv")); walk_at "rd")
  | (apply Exists.intro; walk_at "rd")
  | (refine iteY ?_ ?_; (focus (walk_at "cn")); walk_at "rd")
  | (refine iteN ?_ ?_; (focus (walk_at "cn")); walk_at "rd")
  | (refine iteY' ?_ ?_; (focus (walk_at "cn")); walk_at "rd")
  | (refine iteN' ?_ ?_; (focus (walk_at "cn")); walk_at "rd")
  | (refine iteBt ?_ ?_; (focus (first | assumption | decide +kernel)); walk_at "rd")
  | (refine iteBf ?_ ?_; (focus (first | assumption | decide +kernel)); walk_at "rd")
  | (intro _; walk_at "rd") | skip)
namespace Rf
section
variable {P : Program} {w : World} {K : PySem.W.Frag} {mg : Str → Option Value} {base : Heap} {C : Addr} (TT : Tb)
theorem word_in {x : Str} (h : x = "sum" ∨ x = "min" ∨ x = "max") : inV (V.str x) [V.str "sum", V.str "min", V.str "max"] = true := by
  rcases h with rfl | rfl | rfl <;> decide +kernel
def sp_is_formula : Sp := fun vs H Q _ => ∃ v f, vs = [v] ∧ FrmAt H v f ∧ FrmOk f ∧ ∀ H', Ex TT H H' → Q (.bl true) H'
theorem cal_is_formula (T : Tx K mg C) (D : DefB K mg "is_formula" s_is_formula ["value"]) (c_is_pair : C8.Cal P w K mg base 1 "is_pair" sp_is_pair []) (c_is_term : C8.Cal P w K mg base 2 "is_term" sp_is_term []) : C8.Cal P w K mg base 3 "is_formula" (sp_is_formula TT) [] := by
  refine cal_of D sc_is_formula (fun vs H Q E h => by obtain ⟨_, _, rfl, _⟩ := h; rfl) (fun fa cdv A outer s H vs Q E hr h => ?_)
  obtain ⟨v, f, rfl, ⟨p, u, rfl, hp, ⟨q, xs, rfl, hq, hx⟩⟩, ok, k⟩ := h
  have nd := sc_is_formula.nd
  have w1 : (!inV (V.str f.word) [V.str "sum", V.str "min", V.str "max"]) = false := by rw [word_in ok.wd] <;> rfl
  have hlen : xs.length = f.ins.length := by
    rcases hx with ⟨_, hx⟩ | ⟨_, hx⟩
    · exact Paired.length hx
    · rw [hx, List.length_map]; unfold Frm.names; rw [List.length_map]
  have l1 : (1 : Int) ≤ (xs.length : Int) := by have := ok.lo; omega
  have l4 : (xs.length : Int) ≤ 4 := by have := ok.hi; omega
  refine ⟨_, (pss_cons (ps_if (PW.pt (pw_or (pt_not (pt_val (C8.pe_c c_is_pair hr (by first | decide | omega) (by rfl) (pa_cons (pv 0) pa_nil)))) (pw_or (pt_not (pt_val (pe_callB call_isi (by rfl) T.n_isinstance (by decide +kernel) (pa_cons (pe_ix ix_tup (pv 0) pe_int (fun _ _ => rfl)) (pa_cons (pe_bltn (v := .ty "str") (by rfl) T.n_str (by decide +kernel) rfl) pa_nil))))) (pw_or1 (pt_cmpR op_notIn_seq (pe_ix ix_tup (pv 0) pe_int (fun _ _ => rfl)) (pe_tup (pa_cons pe_str (pa_cons pe_str (pa_cons pe_str pa_nil)))) rfl))))) (pss_one (ps_ret pe_bl)) pss_nil)
      (pss_cons (ps_if (PW.pt (pw_or (pt_not (pt_val (pe_callB call_isi (by rfl) T.n_isinstance (by decide +kernel) (pa_cons (pe_ix ix_tup (pv 0) pe_int (fun _ _ => rfl)) (pa_cons (pe_bltn (v := .ty "tuple") (by rfl) T.n_tuple (by decide +kernel) rfl) pa_nil))))) (pw_or1 (pt_not (pt_chain op_le op_le pe_int (pe_callB call_len_seq (by rfl) T.n_len (by decide +kernel) (pa_cons (pe_ix ix_tup (pv 0) pe_int (fun _ _ => rfl)) pa_nil)) (C8.pe_gc (v := .int 4) (by rfl) T.c_MAX_INPUTS)))))) (pss_one (ps_ret pe_bl)) pss_nil)
      (pss_one (ps_ret (pe_or (pe_cmpR op_ne (pe_ix ix_tup (pv 0) pe_int (fun _ _ => rfl)) pe_str (nomark _)) (pe_one (pe_callB (cr_all rfl) (by rfl) T.n_all (by decide +kernel) (pa_cons (lcX (pe_lc (g := (gName 1)) rfl nd (pi_tup (pe_ix ix_tup (pv 0) pe_int (fun _ _ => rfl))) (blkOk_by (own := [("term", 1)]) (N := N_is_formula) (sc := C8.fnScope s_is_formula) (by decide +kernel)) (fun _ _ _ _ _ => (pg_name (i := 1) nd rfl (Or.inl rfl) (by first | exact Or.inr rfl | exact Or.inl rfl))) (fun _ _ _ _ _ => pts_nil) (fun _ _ _ _ _ => (C8.pe_c c_is_term hr (by first | decide | omega) (by rfl) (pa_cons (pv 1) pa_nil))))) pa_nil)))))))), ?_⟩
  walk_at "rd"
  rcases hx with ⟨hw, hx⟩ | ⟨hw, hx⟩
  · have hw' : V.str f.word = V.str "sum" := by rw [hw]
    walk_at "rd"
    have e0 := ‹Ex TT H _›
    refine lc_tupP (T := TT) f.ins (RowAt H) (e0.at hq) hx (by have := ok.hi; omega) (fun _ => true) (fun _ y t => y = V.bl true) (fun _ _ _ _ _ h => h) ?_ ?_
    · intro t x Hc K1 K0 hm ⟨r, er, hr⟩ e k1 k0
      subst er
      obtain ⟨f0, f1, f2⟩ := ok.fa t hm
      have hr' := e.at (e0.at hr)
      walk_at "rd"
      exact k1 rfl _ _ (Ex.refl _) rfl
    · intro Dl ys H2 hD e hd qq
      rw [filt_true] at qq
      have eq := bools_of (f := fun _ => true) qq
      subst eq
      refine ⟨_, _, rfl, SqL.of hd, ?_⟩
      show Q (V.bl _) _
      rw [all_true (fun _ _ => rfl)]
      exact k _ (e0.trans e)
  · have hw' : ¬ V.str f.word = V.str "sum" := fun z => hw (V.str.inj z)
    walk_at "rd"
    exact k _ ‹_›
def sp_m_sources : Sp := fun vs H Q _ => ∃ v N, vs = [v] ∧ NetAt C H v N ∧ ∀ d kvs H', Ex TT H H' → H d = none → H' d = some (.dK kvs) → DctAt (SrcAt H') kvs N.src → Q (.ref d) H'
theorem met_sources (T : Tx K mg C) (D : MetB K C "sources" "Network.sources" s_m_sources ["self"]) : C8.Met P w K mg base 1 C "sources" (sp_m_sources (C := C) TT) [] := by
  refine met_of T.cl D sc_m_sources (fun vs H Q E h => by obtain ⟨_, _, rfl, _⟩ := h; rfl) (fun fa cdv A outer s H vs Q E hr h => ?_)
  obtain ⟨v, N, rfl, hN, k⟩ := h
  obtain ⟨p, dx, fs, d1, d2, rfl, hp, h1, h2, ⟨k1, e1, g1⟩, ⟨k2, e2, g2⟩, _⟩ := hN.un
  have nd := sc_m_sources.nd
  have cl := T.cl
  have n1 := T.nSp
  refine ⟨_, (pss_one (ps_ret (pe_callTy call_dictD (by rfl) T.n_dict (by decide +kernel) (pa_cons (pe_fld (pv 0) rfl) pa_nil)))), ?_⟩
  walk_at "rd"
  have e0 := ‹Ex TT H _›
  exact k _ _ _ e0 ‹_› ‹_› (DctAt.imp g1 fun _ _ z => z.tu e0.tu)
def sp_m_views : Sp := fun vs H Q _ => ∃ v N, vs = [v] ∧ NetAt C H v N ∧ ∀ d kvs H', Ex TT H H' → H d = none → H' d = some (.dK kvs) → DctAt (VwAt H') kvs N.vws → Q (.ref d) H'
theorem met_views (T : Tx K mg C) (D : MetB K C "views" "Network.views" s_m_views ["self"]) : C8.Met P w K mg base 1 C "views" (sp_m_views (C := C) TT) [] := by
  refine met_of T.cl D sc_m_views (fun vs H Q E h => by obtain ⟨_, _, rfl, _⟩ := h; rfl) (fun fa cdv A outer s H vs Q E hr h => ?_)
  obtain ⟨v, N, rfl, hN, k⟩ := h
  obtain ⟨p, dx, fs, d1, d2, rfl, hp, h1, h2, ⟨k1, e1, g1⟩, ⟨k2, e2, g2⟩, _⟩ := hN.un
  have nd := sc_m_views.nd
  have cl := T.cl
  have n1 := T.nDe
  refine ⟨_, (pss_one (ps_ret (pe_callTy call_dictD (by rfl) T.n_dict (by decide +kernel) (pa_cons (pe_fld (pv 0) rfl) pa_nil)))), ?_⟩
  walk_at "rd"
  have e0 := ‹Ex TT H _›
  exact k _ _ _ e0 ‹_› ‹_› (DctAt.imp g2 fun _ _ z => z.tu e0.tu)
def sp_m_names : Sp := fun vs H Q _ => ∃ v N, vs = [v] ∧ NetAt C H v N ∧ NetOk N ∧ ∀ d H', Ex TT H H' → H d = none → H' d = some (.lst (N.names.map V.str)) → Q (.ref d) H'
theorem met_names (T : Tx K mg C) (D : MetB K C "names" "Network.names" s_m_names ["self"]) : C8.Met P w K mg base 1 C "names" (sp_m_names (C := C) TT) [] := by
  refine met_of T.cl D sc_m_names (fun vs H Q E h => by obtain ⟨_, _, rfl, _⟩ := h; rfl) (fun fa cdv A outer s H vs Q E hr h => ?_)
  obtain ⟨v, N, rfl, hN, ok, k⟩ := h
  obtain ⟨p, dx, fs, d1, d2, rfl, hp, h1, h2, ⟨k1, e1, g1⟩, ⟨k2, e2, g2⟩, _⟩ := hN.un
  have nd := sc_m_names.nd
  have cl := T.cl
  have n1 := T.nDe
  have n2 := T.nSp
  have l1 := g1.len
  have l2 := g2.len
  have l3 := ok.s5
  refine ⟨_, (pss_one (ps_ret (pe_op op_cat (pe_callTy (call_listD rfl) (by rfl) T.n_list (by decide +kernel) (pa_cons (pe_fld (pv 0) rfl) pa_nil)) (pe_callTy (call_listD rfl) (by rfl) T.n_list (by decide +kernel) (pa_cons (pe_fld (pv 0) rfl) pa_nil))))), ?_⟩
  walk_at "rd"
  refine k _ _ (by walk_at "up") (by walk_at "up") ?_
  rw [show N.names.map V.str = k1.map (fun kv => kV kv.1) ++ k2.map (fun kv => kV kv.1) from by rw [g1.keys, g2.keys, ← List.map_append]; rfl]
  assumption
def sp_m_inputs : Sp := fun vs H Q _ => ∃ v N n, vs = [v, .str n] ∧ NetAt C H v N ∧ NetOk N ∧ ∀ d H', Ex TT H H' → H d = none → H' d = some (.lst ((N.inputs n).map V.str)) → Q (.ref d) H'
theorem met_inputs (T : Tx K mg C) (D : MetB K C "inputs" "Network.inputs" s_m_inputs ["self", "name"]) (c_inputs_of : C8.Cal P w K mg base 1 "inputs_of" (sp_inputs_of TT) []) : C8.Met P w K mg base 2 C "inputs" (sp_m_inputs (C := C) TT) [] := by
  refine met_of T.cl D sc_m_inputs (fun vs H Q E h => by obtain ⟨_, _, _, rfl, _⟩ := h; rfl) (fun fa cdv A outer s H vs Q E hr h => ?_)
  obtain ⟨v, N, n, rfl, hN, ok, k⟩ := h
  obtain ⟨p, dx, fs, d1, d2, rfl, hp, h1, h2, ⟨k1, e1, g1⟩, ⟨k2, e2, g2⟩, _⟩ := hN.un
  have nd := sc_m_inputs.nd
  have cl := T.cl
  have n1 := T.nDe
  have n2 := T.nSp
  have hu := hu_of hr
  refine ⟨_, (pss_one (ps_ret (pe_ifExp (pt_cmp (pc_din hu (pv 1) (pe_fld (pv 0) rfl))) (C8.pe_c c_inputs_of hr (by first | decide | omega) (by rfl) (pa_cons (pe_ix ix_tup (pe_dget hu (pe_fld (pv 0) rfl) (pv 1) (fun _ _ => rfl)) pe_int (fun _ _ => rfl)) pa_nil)) (pe_lst pa_nil)))), ?_⟩
  cases e : look N.vws n with
  | none =>
    have h0 : (valV k2 (Sum.inr n)).isSome = false := by rw [g2.isSome, e] <;> rfl
    walk_at "rd"
    refine k _ _ (by walk_at "up") (by walk_at "up") ?_
    rw [show N.inputs n = [] from by unfold Net.inputs; rw [e]]
    assumption
  | some f =>
    have h0 : (valV k2 (Sum.inr n)).isSome = true := by rw [g2.isSome, e] <;> rfl
    obtain ⟨u, hu1, hu2⟩ := g2.yes e
    obtain ⟨q, x, rfl, hq, hx⟩ := hu2
    have hz := ok.ins e
    walk_at "rd"
    refine k _ _ (by walk_at "up") (by walk_at "up") ?_
    rw [show N.inputs n = f.1.names from by unfold Net.inputs; rw [e]]
    assumption
def sp_m_price : Sp := fun vs H Q _ => ∃ v N n c, vs = [v, .str n] ∧ NetAt C H v N ∧ N.price n = some c ∧ Q (.int c) H
theorem met_price (T : Tx K mg C) (D : MetB K C "price" "Network.price" s_m_price ["self", "name"]) : C8.Met P w K mg base 1 C "price" (sp_m_price (C := C)) [] := by
  refine met_of T.cl D sc_m_price (fun vs H Q E h => by obtain ⟨_, _, _, _, rfl, _⟩ := h; rfl) (fun fa cdv A outer s H vs Q E hr h => ?_)
  obtain ⟨v, N, n, c, rfl, hN, hc, k⟩ := h
  obtain ⟨p, dx, fs, d1, d2, rfl, hp, h1, h2, ⟨k1, e1, g1⟩, ⟨k2, e2, g2⟩, _⟩ := hN.un
  have nd := sc_m_price.nd
  have cl := T.cl
  have n1 := T.nDe
  have n2 := T.nSp
  have hu := hu_of hr
  refine ⟨_, (pss_one (ps_ret (pe_ifExp (pt_cmp (pc_din hu (pv 1) (pe_fld (pv 0) rfl))) (pe_ix ix_tup (pe_dget hu (pe_fld (pv 0) rfl) (pv 1) (fun _ _ => rfl)) pe_int (fun _ _ => rfl)) (pe_ix ix_tup (pe_dget hu (pe_fld (pv 0) rfl) (pv 1) (fun _ _ => rfl)) pe_int (fun _ _ => rfl))))), ?_⟩
  unfold Net.price at hc
  cases e : look N.src n with
  | some f =>
    have h0 : (valV k1 (Sum.inr n)).isSome = true := by rw [g1.isSome, e] <;> rfl
    obtain ⟨u, hu1, hu2⟩ := g1.yes e
    obtain ⟨q, rfl, hq⟩ := hu2
    rw [e] at hc
    cases hc
    walk_at "rd"
    exact k
  | none =>
    have h0 : (valV k1 (Sum.inr n)).isSome = false := by rw [g1.isSome, e] <;> rfl
    rw [e] at hc
    cases e' : look N.vws n with
    | none =>
      rw [e'] at hc
      cases hc
    | some f =>
      rw [e'] at hc
      cases hc
      obtain ⟨u, hu1, hu2⟩ := g2.yes e'
      obtain ⟨q, x, rfl, hq, hx⟩ := hu2
      walk_at "rd"
      exact k
end
end Rf
end

set_option Elab.async false
set_option linter.all false
set_option maxRecDepth 100000
set_option maxHeartbeats 4000000
set_option pp.maxSteps 1500
section
open PySem PySem.Spec PyProof.Rows L2 Rf
local macro_rules | `(tactic| walk_at "up") => `(tactic| first | assumption | exact Ex.refl _ | exact upd_same | (apply upd_at; (focus assumption); walk_at "up") | (apply upd_at'; (focus assumption); walk_at "up") | (apply Ex.mutL; (focus (walk_at "up")); (focus (walk_at "up")); walk_at "up") | (apply Ex.mutD; (focus (walk_at "up")); (focus (walk_at "up")); walk_at "up") | (apply Ex.free'; (focus assumption); walk_at "up") | (apply Ex.atT; (focus assumption); walk_at "up") | (apply Ex.atL; (focus assumption); walk_at "up") | (apply Ex.atD; (focus assumption); walk_at "up") | (apply Ex.atI; (focus assumption); walk_at "up") | (apply Ex.atF; (focus assumption); walk_at "up") | (apply Ex.then'; (focus assumption); walk_at "up") | (apply NetAt.ex; (focus assumption); walk_at "up") | (apply PartsAt.ex; (focus assumption); walk_at "up") | (apply PlanAt.ex; (focus assumption); walk_at "up") | (apply QrsAt.ex; (focus assumption); walk_at "up") | (apply SrcD.ex; (focus assumption); walk_at "up") | (apply VwD.ex; (focus assumption); walk_at "up") | (apply SeqIs.ex; (focus assumption); walk_at "up") | (apply NetAt.ex'; (focus assumption); walk_at "up") | (apply PartsAt.ex'; (focus assumption); walk_at "up") | (apply PlanAt.ex'; (focus assumption); walk_at "up") | (apply QrsAt.ex'; (focus assumption); walk_at "up") | (apply SrcD.ex'; (focus assumption); walk_at "up") | (apply VwD.ex'; (focus assumption); walk_at "up") | (apply SeqIs.ex'; (focus assumption); walk_at "up") | (apply Ex.atT'; (focus assumption); walk_at "up") | (apply Ex.atL'; (focus assumption); walk_at "up") | (apply Ex.atD'; (focus assumption); walk_at "up") | (apply Ex.atI'; (focus assumption); walk_at "up") | (with_reducible apply FrmAt.ex'; (focus assumption); walk_at "up") | (with_reducible apply VwAt.ex'; (focus assumption); walk_at "up") | (with_reducible apply RowAt.ex'; (focus assumption); walk_at "up") | (with_reducible apply SrcAt.ex'; (focus assumption); walk_at "up") | (with_reducible apply QryAt.ex'; (focus assumption); walk_at "up") | (with_reducible apply Rows.ex'; (focus assumption); walk_at "up") | (with_reducible apply StAt.exE; (focus assumption); walk_at "up") | (with_reducible apply sqU; (focus assumption); assumption) | (with_reducible apply sqE; (focus assumption); walk_at "up") | (with_reducible apply sqM; (focus assumption); (focus (walk_at "ne")); walk_at "up") | (with_reducible apply Ex.tabs'; (focus assumption); walk_at "up") | (with_reducible apply Ex.thenM; (focus assumption); (focus (walk_at "up")); walk_at "up") | (with_reducible apply Ex.thenMM; (focus assumption); walk_at "up") | (with_reducible apply atML; (focus assumption); (focus (walk_at "ne")); walk_at "up") | (with_reducible apply atMD; (focus assumption); (focus (walk_at "ne")); walk_at "up") | (with_reducible apply atMT; (focus assumption); (focus (walk_at "ne")); walk_at "up"))
local macro_rules | `(tactic| walk_at "ne") => `(tactic| first | assumption | (apply ne_st; (focus assumption); (walk_at "up")))
local macro_rules | `(tactic| walk_at "sv") => `(tactic| first | rfl | assumption | exact Ex.refl _ | exact ClsV.ty _ | (apply TyX.base; first | exact TyOf.int _ | exact TyOf.str _ | exact TyOf.bl _ | (apply TyOf.tup; walk_at "up") | (apply TyOf.lst; walk_at "up") | (apply TyOf.dK; walk_at "up")) | exact kit_ty (by decide +kernel) | (apply Rd.of; walk_at "up") | (apply DGet_some; (focus (walk_at "up")); assumption) | (apply DGet_f; (focus (walk_at "up")); assumption) | (apply DGet_s; walk_at "up") | (apply DPut_s; (focus (walk_at "up")); omega) | (apply sz5; simp only [List.length_map, List.length_append, List.length_cons, List.length_nil]; omega) | (apply sz4; simp only [List.length_map, List.length_append, List.length_cons, List.length_nil]; omega) | (apply SqL.of; walk_at "up") | (apply SqT.of; walk_at "up") | (apply Or.inl; apply SqL.of; walk_at "up") | (apply Or.inr; apply SqT.of; walk_at "up") | (apply Exists.intro; first | (apply SqL.of; walk_at "up") | (apply SqT.of; walk_at "up")) | exact flatStrs _ | (apply dp_nil; walk_at "up") | (apply dp_strs; walk_at "up") | (apply dp_ints; walk_at "up") | (apply dp_row; walk_at "up") | (apply dp_rowL; walk_at "up") | (apply dp_rows; (focus (walk_at "up")); walk_at "up") | exact shaped_nil | exact shaped_ints | (apply shaped_strs; assumption) | (apply shaped_rows; assumption) | (apply shaped_row; assumption) | (with_reducible apply RowAt.mk; walk_at "up") | (apply tyL; walk_at "up") | (apply tyD; walk_at "up") | (with_reducible apply cmul_r; constructor <;> omega) | (with_reducible apply cmul_l; constructor <;> omega) | (with_reducible apply cdiv_i; constructor <;> omega) | walk_at "up" | (with_reducible apply ne_st; (focus assumption); walk_at "up") | omega | (dsimp only; omega) | decide | (simp only [List.length_map, List.length_append, List.length_cons, List.length_nil]; omega))
local macro_rules | `(tactic| walk_at "cn") => `(tactic| first | assumption | omega | (dsimp only; omega) | (simp only [List.length_map, List.length_append, List.length_cons, List.length_nil, List.length_reverse]; omega) | decide)
local macro_rules | `(tactic| walk_at "rd") => `(tactic| first
  | (with_reducible show LcGo _ _ _ _ _ _ _ _)
  | (with_reducible show DcGo _ _ _ _ _ _ _ _ _)
  | (with_reducible show ForGo _ _ _ _ _ _)
  | (refine allocI (fun p hp => ?_); generalize hh : upd _ _ _ = H2; have e := exNew (T := ‹Tb›) hh hp; have h := updAt hh; clear hh; walk_at "rd")
  | (apply And.intro; (focus (walk_at "sv")); walk_at "rd")
  | (apply Exists.intro; walk_at "rd")
  | (refine iteY ?_ ?_; (focus (walk_at "cn")); walk_at "rd")
  | (refine iteN ?_ ?_; (focus (walk_at "cn")); walk_at "rd")
  | (refine iteY' ?_ ?_; (focus (walk_at "cn")); walk_at "rd")
  | (refine iteN' ?_ ?_; (focus (walk_at "cn")); walk_at "rd")
  | (refine iteBt ?_ ?_; (focus (first | assumption | decide +kernel)); walk_at "rd")
  | (refine iteBf ?_ ?_; (focus (first | assumption | decide +kernel)); walk_at "rd")
  | (intro _; walk_at "rd") | skip)
namespace Rf
section
variable {P : Program} {w : World} {K : PySem.W.Frag} {mg : Str → Option Value} {base : Heap} {C : Addr} (TT : Tb)
theorem netGood {known free : List Str} : ∀ {l : List (Str × Frm × Int)}, VwsOk known free l → ∀ v ∈ l, Good v.1 := by
  intro l
  induction l generalizing known free with
  | nil => intro _ v h; cases h
  | cons u r ih =>
    intro ok v h
    rcases List.mem_cons.mp h with rfl | h
    · exact ok.1.nm
    · exact ih ok.2 v h
theorem NetOk.good {N : Net} (ok : NetOk N) : ∀ n ∈ N.names, Good n := by
  intro n h
  unfold Net.names at h
  rcases List.mem_append.mp h with h | h
  · obtain ⟨s, hs, rfl⟩ := List.mem_map.mp h
    exact (ok.so s hs).nm
  · obtain ⟨s, hs, rfl⟩ := List.mem_map.mp h
    exact netGood ok.vo s hs
theorem nil_or_snoc {α : Type} (l : List α) : l = [] ∨ ∃ a b, l = a ++ [b] := by
  rcases List.eq_nil_or_concat l with h | ⟨a, b, h⟩
  · exact .inl h
  · exact .inr ⟨a, b, by rw [h, List.concat_eq_append]⟩
def below_mu (N : Net) (ws : List Str) : Nat := (ws.map fun x => (N.under x).length).sum
theorem below_mu_app (N : Net) (a b : List Str) : below_mu N (a ++ b) = below_mu N a + below_mu N b := by
  unfold below_mu
  rw [List.map_append, List.sum_append]
theorem below_mu_one {N : Net} (ok : NetOk N) (x : Str) : below_mu N [x] = below_mu N (N.inputs x) + 1 := by
  unfold below_mu
  simp only [List.map_cons, List.map_nil, List.sum_cons, List.sum_nil]
  rw [under_eq ok, List.length_cons, List.length_flatMap]
  rfl
theorem below_mu_len {N : Net} (ok : NetOk N) : ∀ ws : List Str, ws.length ≤ below_mu N ws
  | [] => Nat.zero_le _
  | x :: r => by
    have h := below_mu_len ok r
    have e : below_mu N (x :: r) = (N.under x).length + below_mu N r := by unfold below_mu; simp
    have u : 1 ≤ (N.under x).length := by rw [under_eq ok, List.length_cons]; omega
    rw [e, List.length_cons]
    omega
def sp_m_below : Sp := fun vs H Q _ => ∃ v N n, vs = [v, .str n] ∧ NetAt C H v N ∧ NetOk N ∧ n ∈ N.names ∧ ∀ d H', Ex TT H H' → H d = none → H' d = some (.lst ((N.below n).map V.str)) → Q (.ref d) H'
theorem met_below (T : Tx K mg C) (D : MetB K C "below" "Network.below" s_m_below ["self", "name"]) (c_m_names : C8.Met P w K mg base 1 C "names" (sp_m_names (C := C) TT) []) (c_m_inputs : C8.Met P w K mg base 2 C "inputs" (sp_m_inputs (C := C) TT) []) : C8.Met P w K mg base 3 C "below" (sp_m_below (C := C) TT) [] := by
  refine met_of T.cl D sc_m_below (fun vs H Q E h => by obtain ⟨_, _, _, rfl, _⟩ := h; rfl) (fun fa cdv A outer s H vs Q E hr h => ?_)
  obtain ⟨v, N, n, rfl, hN, ok, hn, k⟩ := h
  obtain ⟨p, dx, fs, d1, d2, rfl, hp, h1, h2, _, _, m1, m2, m3, m4, m5, m6⟩ := hN.un
  have nd := sc_m_below.nd
  have cl := T.cl
  have hu := hu_of hr
  have hin : (!inV (V.str n) (N.names.map V.str)) = false := by rw [inV_strs, decide_eq_true hn] <;> rfl
  refine ⟨_, (pss_cons (ps_if (PW.pt (pw_or (pt_not (pt_val (pe_callB call_isi (by rfl) T.n_isinstance (by decide +kernel) (pa_cons (pv 1) (pa_cons (pe_bltn (v := .ty "str") (by rfl) T.n_str (by decide +kernel) rfl) pa_nil))))) (pw_or1 (pt_cmpR op_notIn_seq (pv 1) (C8.pe_mt0 c_m_names hr (by first | decide | omega) (pv 0)) rfl)))) (pss_one ps_never) pss_nil)
      (pss_cons (ps_asg (pe_tup (pa_cons (pe_lst pa_nil) (pa_cons (C8.pe_mt c_m_inputs hr (by first | decide | omega) (pv 0) (pa_cons (pv 1) pa_nil)) pa_nil))) (pg_tup rfl (pgs_cons (pg_name (i := 2) nd rfl (Or.inr rfl) (by first | exact Or.inr rfl | exact Or.inl rfl)) (pgs_cons (pg_name (i := 3) nd rfl (Or.inl rfl) (by first | exact Or.inr rfl | exact Or.inl rfl)) pgs_nil))))
      (pss_cons (whX (ps_while PassesOwn.never (pt_cmpR (op_neD hr.units) (pv 3) (pe_lst pa_nil) (nomark _)) (pss_cons (ps_set (i := 4) nd rfl (Or.inl rfl) (pe_bm0 PySem.F.plainAttrs_list PySem.F.slot_list_pop PySem.F.type_list_pop mt_pop (pv 3)))
      (pss_cons (ps_expr (pe_bm PySem.F.plainAttrs_list PySem.F.slot_list_append PySem.F.type_list_append mt_append (pv 2) (pa_cons (pv 4) pa_nil)))
      (pss_one (ps_expr (pe_bm PySem.F.plainAttrs_list PySem.F.slot_list_extend PySem.F.type_list_extend mt_extend (pv 3) (pa_cons (C8.pe_mt c_m_inputs hr (by first | decide | omega) (pv 0) (pa_cons (pv 4) pa_nil)) pa_nil))))))))
      (pss_one (ps_ret (lcX (pe_lc (g := (gName 4)) rfl nd (pi_list (C8.pe_mt0 c_m_names hr (by first | decide | omega) (pv 0))) (blkOk_by (own := [("one", 4)]) (N := N_m_below) (sc := C8.fnScope s_m_below) (by decide +kernel)) (fun _ _ _ _ _ => (pg_name (i := 4) nd rfl (Or.inl rfl) (by first | exact Or.inr rfl | exact Or.inl rfl))) (fun _ _ _ _ _ => pts_one (pt_cmpR (op_in_seqK (K := K)) (pv 4) (pv 2) rfl)) (fun _ _ _ _ _ => (pv 4))))))))), ?_⟩
  walk_at "rd"
  refine WhGo.of ?_
  have pn : ∀ {p q : Addr} {H1 H2 : Hp} {o : HO}, H1 p = some o → Ex TT H1 H2 → H2 q = none → p ≠ q := fun {p q H1 H2 o} h e n z => by
    rw [z, e.al _ n] at h
    cases h
  rename_i l0 Ha ea la hla pf lpf H1 e1 hf pw H2 e2 lpw hw pt lpt H3 e3 ht
  have fpw : pf ≠ pw := pn hf (Ex.refl _) lpw
  have hpf0 : H pf = none := by walk_at "up"
  have hpw0 : H pw = none := by walk_at "up"
  have npf : p ≠ pf := ne_of_none hp hpf0
  have npw : p ≠ pw := ne_of_none hp hpw0
  have mu0 := below_mu_one ok n
  have mu1 : below_mu N [n] = (N.under n).length := by unfold below_mu; simp
  have mu2 := under_len ok n
  have hcan : ∀ x ∈ N.names, PyData.canLay0 (.str x) = true := fun x hx => (ok.good x hx).ok
  refine ⟨fun m σ Hc => ∃ (fs ws : List Str) (v4 : Option V), σ = [some (.ref p), some (.str n), some (.ref pf), some (.ref pw), v4] ∧ Ex TT H Hc ∧ Hc pf = some (.lst (fs.map V.str)) ∧ Hc pw = some (.lst (ws.map V.str)) ∧ m = below_mu N ws ∧ fs.length + m ≤ 30000 ∧
    (∀ x ∈ ws, x ∈ N.names) ∧ (∀ x, x ∈ fs ∨ x ∈ ws.flatMap N.under ↔ x ∈ (N.inputs n).flatMap N.under), ⟨below_mu N (N.inputs n), [], N.inputs n, none, rfl, by walk_at "up", by walk_at "up", by walk_at "up", rfl, by show 0 + _ ≤ _; omega, fun x hx => (ok.order hx).2.2.1, fun x => by simp⟩, ?_⟩
  rintro m σ Hc ⟨fs, ws, v4, rfl, ec, hcf, hcw, rfl, hm, hnm, hmem⟩
  have hsh : ∀ x ∈ ws, PyData.canLay0 (.str x) = true := fun x hx => hcan x (hnm x hx)
  rcases nil_or_snoc ws with rfl | ⟨ws', one, rfl⟩
  · have hq : (!PyData.eqv (.list (([] : List Str).map PyData.str)) (.list [])) = false := by rw [eqv_nil]; simp
    walk_at "rd"
    rename_i q0 hq0 H4 e4 hq4 dn H5 e5 hdn hd5
    refine lc_lstP (T := TT) N.names (fun v x => v = V.str x) hd5 (Paired.of_fn _) (by have := ok.len; omega) (fun x => decide (x ∈ (N.inputs n).flatMap N.under)) (fun _ y x => y = V.str x) (fun _ _ _ _ _ h => h) ?_ ?_
    · intro x v Hx K1 K0 hxm hv ex k1 k0
      subst hv
      have hf5 : Hx pf = some (.lst (fs.map V.str)) := by walk_at "up"
      have ein : inV (V.str x) (fs.map V.str) = decide (x ∈ (N.inputs n).flatMap N.under) := by
        rw [inV_strs, decide_eq_decide, ← hmem x]
        simp
      walk_at "rd"
      refine ite2 (fun hc => ?_) (fun hc => ?_)
      · have hc : inV (V.str x) (fs.map V.str) = true := hc
        rw [ein] at hc
        walk_at "rd"
        exact k1 hc _ _ (Ex.refl _) rfl
      · have hc : ¬ inV (V.str x) (fs.map V.str) = true := hc
        rw [ein] at hc
        exact k0 (by simpa using hc) _ (Ex.refl _)
    · intro Dl ys H6 hD e hd qq
      refine k _ _ (by walk_at "up") (by walk_at "up") ?_
      rw [hd, Paired.fn (f := V.str) qq]
      rfl
  · have hq : (!PyData.eqv (.list ((ws' ++ [one]).map PyData.str)) (.list [])) = true := by rw [eqv_nil]; simp
    have hlast : ((ws' ++ [one]).map V.str)[((ws' ++ [one]).map V.str).length - 1]? = some (V.str one) := by simp
    have b1 := below_mu_len ok (ws' ++ [one])
    have b2 := inputs_len ok one
    have b3 := below_mu_one ok one
    have b4 := below_mu_app N ws' [one]
    have b5 := below_mu_app N ws' (N.inputs one)
    have hone : one ∈ N.names := hnm one (by simp)
    have ez : ((ws' ++ [one]).map V.str).dropLast = ws'.map V.str := by rw [List.map_append, List.map_singleton, List.dropLast_concat]
    rw [List.length_append, List.length_singleton] at b1
    have hz1 : ((ws' ++ [one]).map V.str).dropLast.length + ((N.inputs one).map V.str).length ≤ sizeLine := by
      rw [ez]
      exact sz5 (by simp only [List.length_map]; omega)
    have hz2 : (fs.map V.str).length < sizeLine := sz4 (by rw [List.length_map]; omega)
    walk_at "rd"
    refine ⟨fun σ' H' (h : Box _) => h.un, ?_⟩
    walk_at "rd"
    rename_i q0 hq0 H4 e4 hq4 dn H5 e5 hdn hd5
    have ef : fs.map V.str ++ [V.str one] = (fs ++ [one]).map V.str := by rw [List.map_append, List.map_singleton]
    have ew : ((ws' ++ [one]).map V.str).dropLast ++ (N.inputs one).map V.str = (ws' ++ N.inputs one).map V.str := by rw [ez, List.map_append]
    refine ⟨⟨below_mu N (ws' ++ N.inputs one), by omega, fs ++ [one], ws' ++ N.inputs one, some (.str one), rfl, by walk_at "up", ?_, ?_, rfl, by rw [List.length_append, List.length_singleton]; omega, fun x hx => ?_, fun x => ?_⟩⟩
    · rw [← ef]
      walk_at "up"
    · rw [← ew]
      walk_at "up"
    · rcases List.mem_append.mp hx with hx | hx
      · exact hnm x (List.mem_append_left _ hx)
      · exact (ok.order hx).2.2.1
    · rw [← hmem x, List.mem_append, List.flatMap_append, List.flatMap_append, List.flatMap_cons, List.flatMap_nil, List.append_nil, under_eq ok one]
      simp only [List.mem_append, List.mem_cons, List.not_mem_nil, or_false]
      constructor
      · rintro ((h | h) | (h | h))
        · exact .inl h
        · exact .inr (.inr (.inl h))
        · exact .inr (.inl h)
        · exact .inr (.inr (.inr h))
      · rintro (h | (h | h | h))
        · exact .inl (.inl h)
        · exact .inr (.inl h)
        · exact .inl (.inr h)
        · exact .inr (.inr h)
end
end Rf
end

set_option Elab.async false
set_option linter.all false
set_option maxRecDepth 100000
set_option maxHeartbeats 4000000
set_option pp.maxSteps 1500
section
open PySem PySem.Spec PyProof.Rows L2 Rf
local macro_rules | `(tactic| walk_at "up") => `(tactic| first | assumption | exact Ex.refl _ | exact upd_same | (apply upd_at; (focus assumption); walk_at "up") | (apply upd_at'; (focus assumption); walk_at "up") | (apply Ex.mutL; (focus (walk_at "up")); (focus (walk_at "up")); walk_at "up") | (apply Ex.mutD; (focus (walk_at "up")); (focus (walk_at "up")); walk_at "up") | (apply Ex.free'; (focus assumption); walk_at "up") | (apply Ex.atT; (focus assumption); walk_at "up") | (apply Ex.atL; (focus assumption); walk_at "up") | (apply Ex.atD; (focus assumption); walk_at "up") | (apply Ex.atI; (focus assumption); walk_at "up") | (apply Ex.atF; (focus assumption); walk_at "up") | (apply Ex.then'; (focus assumption); walk_at "up") | (apply NetAt.ex; (focus assumption); walk_at "up") | (apply PartsAt.ex; (focus assumption); walk_at "up") | (apply PlanAt.ex; (focus assumption); walk_at "up") | (apply QrsAt.ex; (focus assumption); walk_at "up") | (apply SrcD.ex; (focus assumption); walk_at "up") | (apply VwD.ex; (focus assumption); walk_at "up") | (apply SeqIs.ex; (focus assumption); walk_at "up") | (apply NetAt.ex'; (focus assumption); walk_at "up") | (apply PartsAt.ex'; (focus assumption); walk_at "up") | (apply PlanAt.ex'; (focus assumption); walk_at "up") | (apply QrsAt.ex'; (focus assumption); walk_at "up") | (apply SrcD.ex'; (focus assumption); walk_at "up") | (apply VwD.ex'; (focus assumption); walk_at "up") | (apply SeqIs.ex'; (focus assumption); walk_at "up") | (apply Ex.atT'; (focus assumption); walk_at "up") | (apply Ex.atL'; (focus assumption); walk_at "up") | (apply Ex.atD'; (focus assumption); walk_at "up") | (apply Ex.atI'; (focus assumption); walk_at "up") | (with_reducible apply FrmAt.ex'; (focus assumption); walk_at "up") | (with_reducible apply VwAt.ex'; (focus assumption); walk_at "up") | (with_reducible apply RowAt.ex'; (focus assumption); walk_at "up") | (with_reducible apply SrcAt.ex'; (focus assumption); walk_at "up") | (with_reducible apply QryAt.ex'; (focus assumption); walk_at "up") | (with_reducible apply Rows.ex'; (focus assumption); walk_at "up") | (with_reducible apply StAt.exE; (focus assumption); walk_at "up") | (with_reducible apply sqU; (focus assumption); assumption) | (with_reducible apply sqE; (focus assumption); walk_at "up") | (with_reducible apply sqM; (focus assumption); (focus (walk_at "ne")); walk_at "up") | (with_reducible apply Ex.tabs'; (focus assumption); walk_at "up") | (with_reducible apply Ex.thenM; (focus assumption); (focus (walk_at "up")); walk_at "up") | (with_reducible apply Ex.thenMM; (focus assumption); walk_at "up") | (with_reducible apply atML; (focus assumption); (focus (walk_at "ne")); walk_at "up") | (with_reducible apply atMD; (focus assumption); (focus (walk_at "ne")); walk_at "up") | (with_reducible apply atMT; (focus assumption); (focus (walk_at "ne")); walk_at "up"))
local macro_rules | `(tactic| walk_at "ne") => `(tactic| first | assumption | (apply ne_st; (focus assumption); (walk_at "up")))
local macro_rules | `(tactic| walk_at "sv") => `(tactic| first | rfl | assumption | exact Ex.refl _ | exact ClsV.ty _ | (apply TyX.base; first | exact TyOf.int _ | exact TyOf.str _ | exact TyOf.bl _ | (apply TyOf.tup; walk_at "up") | (apply TyOf.lst; walk_at "up") | (apply TyOf.dK; walk_at "up")) | exact kit_ty (by decide +kernel) | (apply Rd.of; walk_at "up") | (apply DGet_some; (focus (walk_at "up")); assumption) | (apply DGet_f; (focus (walk_at "up")); assumption) | (apply DGet_s; walk_at "up") | (apply DPut_s; (focus (walk_at "up")); omega) | (apply sz5; simp only [List.length_map, List.length_append, List.length_cons, List.length_nil]; omega) | (apply sz4; simp only [List.length_map, List.length_append, List.length_cons, List.length_nil]; omega) | (apply SqL.of; walk_at "up") | (apply SqT.of; walk_at "up") | (apply Or.inl; apply SqL.of; walk_at "up") | (apply Or.inr; apply SqT.of; walk_at "up") | (apply Exists.intro; first | (apply SqL.of; walk_at "up") | (apply SqT.of; walk_at "up")) | exact flatStrs _ | (apply dp_nil; walk_at "up") | (apply dp_strs; walk_at "up") | (apply dp_ints; walk_at "up") | (apply dp_row; walk_at "up") | (apply dp_rowL; walk_at "up") | (apply dp_rows; (focus (walk_at "up")); walk_at "up") | exact shaped_nil | exact shaped_ints | (apply shaped_strs; assumption) | (apply shaped_rows; assumption) | (apply shaped_row; assumption) | (with_reducible apply RowAt.mk; walk_at "up") | (apply tyL; walk_at "up") | (apply tyD; walk_at "up") | (with_reducible apply cmul_r; constructor <;> omega) | (with_reducible apply cmul_l; constructor <;> omega) | (with_reducible apply cdiv_i; constructor <;> omega) | walk_at "up" | (with_reducible apply ne_st; (focus assumption); walk_at "up") | omega | (dsimp only; omega) | decide | (simp only [List.length_map, List.length_append, List.length_cons, List.length_nil]; omega))
local macro_rules | `(tactic| walk_at "cn") => `(tactic| first | assumption | omega | (dsimp only; omega) | (simp only [List.length_map, List.length_append, List.length_cons, List.length_nil, List.length_reverse]; omega) | decide)
local macro_rules | `(tactic| walk_at "rd") => `(tactic| first
  | (with_reducible show LcGo _ _ _ _ _ _ _ _)
  | (with_reducible show DcGo _ _ _ _ _ _ _ _ _)
  | (with_reducible show ForGo _ _ _ _ _ _)
  | (refine allocI (fun p hp => ?_); generalize hh : upd _ _ _ = H2; have e := exNew (T := ‹Tb›) hh hp; have h := updAt hh; clear hh; walk_at "rd")
  | (apply And.intro; (focus (walk_at "sv")); walk_at "rd")
  | (apply Exists.intro; walk_at "rd")
  | (refine iteY ?_ ?_; (focus (walk_at "cn")); walk_at "rd")
  | (refine iteN ?_ ?_; (focus (walk_at "cn")); walk_at "rd")
  | (refine iteY' ?_ ?_; (focus (walk_at "cn")); walk_at "rd")
  | (refine iteN' ?_ ?_; (focus (walk_at "cn")); walk_at "rd")
  | (refine iteBt ?_ ?_; (focus (first | assumption | decide +kernel)); walk_at "rd")
  | (refine iteBf ?_ ?_; (focus (first | assumption | decide +kernel)); walk_at "rd")
  | (intro _; walk_at "rd") | skip)
namespace Rf
section
variable {P : Program} {w : World} {K : PySem.W.Frag} {mg : Str → Option Value} {base : Heap} {C : Addr} (TT : Tb)
def sp_is_view : Sp := fun vs H Q _ => ∃ x v f kp fp known free, vs = [.str x, v, .ref kp, .ref fp] ∧ VwOk known free (x, f) ∧ VwAt H v f ∧ H kp = some (.lst (known.map V.str)) ∧ H fp = some (.lst (free.map V.str)) ∧ ∀ H', Ex TT H H' → Q (.bl true) H'
theorem cal_is_view (T : Tx K mg C) (D : DefB K mg "is_view" s_is_view ["name", "value", "known", "free"]) (c_is_name : C8.Cal P w K mg base 1 "is_name" (sp_is_name TT) []) (c_is_pair : C8.Cal P w K mg base 1 "is_pair" sp_is_pair []) (c_is_integer : C8.Cal P w K mg base 1 "is_integer" sp_is_integer [])
    (c_is_formula : C8.Cal P w K mg base 3 "is_formula" (sp_is_formula TT) []) (c_inputs_of : C8.Cal P w K mg base 1 "inputs_of" (sp_inputs_of TT) []) : C8.Cal P w K mg base 4 "is_view" (sp_is_view TT) [] := by
  refine cal_of D sc_is_view (fun vs H Q E h => by obtain ⟨_, _, _, _, _, _, _, rfl, _⟩ := h; rfl) (fun fa cdv A outer s H vs Q E hr h => ?_)
  obtain ⟨x, v, f, kp, fp, known, free, rfl, ok, ⟨p, u, rfl, hp, hf⟩, hk, hfr, k⟩ := h
  have nd := sc_is_view.nd
  have okn : Good x := ok.nm
  have okf : FrmOk f.1 := ok.fr
  have hlen : f.1.ins.length ≤ 1000 := Nat.le_trans okf.hi (by decide)
  have hnk : inV (V.str x) (known.map V.str) = false := by rw [inV_strs]; exact decide_eq_false ok.nk
  refine ⟨_, (pss_cons (ps_if (PW.pt (pw_or (pt_not (pt_val (C8.pe_c c_is_name hr (by first | decide | omega) (by rfl) (pa_cons (pv 0) pa_nil)))) (pw_or (pt_cmpR op_in_seq (pv 0) (pv 2) rfl) (pw_or (pt_not (pt_val (C8.pe_c c_is_pair hr (by first | decide | omega) (by rfl) (pa_cons (pv 1) pa_nil)))) (pw_or1 (pt_not (pt_val (C8.pe_c c_is_formula hr (by first | decide | omega) (by rfl) (pa_cons (pe_ix ix_tup (pv 1) pe_int (fun _ _ => rfl)) pa_nil))))))))) (pss_one (ps_ret pe_bl)) pss_nil)
      (pss_cons (ps_set (i := 4) nd rfl (Or.inl rfl) (C8.pe_c c_inputs_of hr (by first | decide | omega) (by rfl) (pa_cons (pe_ix ix_tup (pv 1) pe_int (fun _ _ => rfl)) pa_nil)))
      (pss_cons (ps_if (PW.pt (pw_or (pt_not (pt_val (pe_callB (cr_all rfl) (by rfl) T.n_all (by decide +kernel) (pa_cons (lcX (pe_lc (g := (gName 5)) rfl nd (pi_list (pv 4)) (blkOk_by (own := [("one", 5)]) (N := N_is_view) (sc := C8.fnScope s_is_view) (by decide +kernel)) (fun _ _ _ _ _ => (pg_name (i := 5) nd rfl (Or.inl rfl) (by first | exact Or.inr rfl | exact Or.inl rfl))) (fun _ _ _ _ _ => pts_nil) (fun _ _ _ _ _ => (pe_and (pe_callB (call_isiK' (K := K)) (by rfl) T.n_isinstance (by decide +kernel) (pa_cons (pv 5) (pa_cons (pe_bltn (v := .ty "str") (by rfl) T.n_str (by decide +kernel) rfl) pa_nil))) (pe_one (pe_cmpR (op_in_seqK (K := K)) (pv 5) (pv 3) rfl)))))) pa_nil)))) (pw_or1 (pt_cmpR op_lt (pe_lenSetS (by rfl) T.n_len (by rfl) T.n_set (pv 4)) (pe_callB call_len_seq (by rfl) T.n_len (by decide +kernel) (pa_cons (pv 4) pa_nil)) (nomark _))))) (pss_one (ps_ret pe_bl)) pss_nil)
      (pss_one (ps_ret (C8.pe_c c_is_integer hr (by first | decide | omega) (by rfl) (pa_cons (pe_ix ix_tup (pv 1) pe_int (fun _ _ => rfl)) (pa_cons pe_int (pa_cons (C8.pe_gc (v := .int 9) (by rfl) T.c_MAX_COST) pa_nil))))))))), ?_⟩
  walk_at "rd"
  rename_i H1 e1 H2 e2 q H3 e3 hq0 hq
  have hfr3 : H3 fp = some (.lst (free.map V.str)) := by walk_at "up"
  have l2 : f.1.names.length ≤ 1000 := by unfold Frm.names; rw [List.length_map]; exact hlen
  have nd1 := ok.nd
  have c2 : decide (1 ≤ f.2 ∧ f.2 ≤ 9) = true := decide_eq_true ⟨ok.c0, ok.c1⟩
  refine lc_allL (T := TT) f.1.names (fun v x => v = V.str x) hq (Paired.of_fn _) (by omega) ?_ ?_
  · intro b v Hc K1 K0 hb hv ec k1
    subst hv
    have hfrc : Hc fp = some (.lst (free.map V.str)) := by walk_at "up"
    have hbf : inV (V.str b) (free.map V.str) = true := by rw [inV_strs]; exact decide_eq_true (ok.us b hb)
    walk_at "rd"
    show K1 (V.bl (inV (V.str b) (free.map V.str))) Hc
    rw [hbf]
    exact k1 _ (Ex.refl _)
  · intro Dl H4 hD e4 hd h1 h2
    have hq4 : H4 q = some (.lst (f.1.names.map V.str)) := by walk_at "up"
    walk_at "rd"
    show Q (V.bl (decide (1 ≤ f.2 ∧ f.2 ≤ 9))) _
    rw [c2]
    exact k _ (by walk_at "up")
def sp_check_network : Sp := fun vs H Q _ => ∃ v N, vs = [v] ∧ NetAt C H v N ∧ Q .non H
theorem cal_check_network (T : Tx K mg C) (D : DefB K mg "check_network" s_check_network ["network"]) : C8.Cal P w K mg base 1 "check_network" (sp_check_network (C := C)) [] := by
  refine cal_of D sc_check_network (fun vs H Q E h => by obtain ⟨_, _, rfl, _⟩ := h; rfl) (fun fa cdv A outer s H vs Q E hr h => ?_)
  obtain ⟨v, N, rfl, hN, k⟩ := h
  obtain ⟨p, dx, fs, d1, d2, rfl, hp, _⟩ := hN.un
  have nd := sc_check_network.nd
  refine ⟨_, (pss_one (ps_if (pt_not (pt_val (pe_callB (C8.call_isC T.insN) (by rfl) T.n_isinstance (by decide +kernel) (pa_cons (pv 0) (pa_cons (pe_glob (v := .ref C) (by rfl) T.k_Network rfl) pa_nil))))) (pss_one ps_never) pss_nil)), ?_⟩
  walk_at "rd"
  exact k
def sp_check_horizon : Sp := fun vs H Q _ => ∃ v N h, vs = [v, .int h] ∧ NetAt C H v N ∧ 1 ≤ h ∧ h ≤ 12 ∧ Q .non H
theorem cal_check_horizon (T : Tx K mg C) (D : DefB K mg "check_horizon" s_check_horizon ["network", "horizon"]) (c_check_network : C8.Cal P w K mg base 1 "check_network" (sp_check_network (C := C)) []) (c_is_integer : C8.Cal P w K mg base 1 "is_integer" sp_is_integer []) : C8.Cal P w K mg base 2 "check_horizon" (sp_check_horizon (C := C)) [] := by
  refine cal_of D sc_check_horizon (fun vs H Q E h => by obtain ⟨_, _, _, rfl, _⟩ := h; rfl) (fun fa cdv A outer s H vs Q E hr h => ?_)
  obtain ⟨v, N, h, rfl, hN, h1, h2, k⟩ := h
  have nd := sc_check_horizon.nd
  have c2 : (!decide (1 ≤ h ∧ h ≤ 12)) = false := by rw [decide_eq_true ⟨h1, h2⟩] <;> rfl
  refine ⟨_, (pss_cons (ps_expr (C8.pe_c c_check_network hr (by first | decide | omega) (by rfl) (pa_cons (pv 0) pa_nil)))
      (pss_one (ps_if (pt_not (pt_val (C8.pe_c c_is_integer hr (by first | decide | omega) (by rfl) (pa_cons (pv 1) (pa_cons pe_int (pa_cons (C8.pe_gc (v := .int 12) (by rfl) T.c_MAX_HORIZON) pa_nil)))))) (pss_one ps_never) pss_nil))), ?_⟩
  walk_at "rd"
  exact k
def sp_refresh_key : Sp := fun vs H Q _ => ∃ v N x r, vs = [v, x] ∧ NetAt C H v N ∧ NetOk N ∧ RowAt H x r ∧ r.2 ∈ N.names ∧ ∀ d H', Ex TT H H' → H d = none → H' d = some (.tup [.int r.1, .int (N.idx r.2 : Nat)]) → Q (.ref d) H'
theorem cal_refresh_key (T : Tx K mg C) (D : DefB K mg "refresh_key" s_refresh_key ["network", "refresh"]) (c_m_names : C8.Met P w K mg base 1 C "names" (sp_m_names (C := C) TT) []) : C8.Cal P w K mg base 2 "refresh_key" (sp_refresh_key (C := C) TT) [] := by
  refine cal_of D sc_refresh_key (fun vs H Q E h => by obtain ⟨_, _, _, _, rfl, _⟩ := h; rfl) (fun fa cdv A outer s H vs Q E hr h => ?_)
  obtain ⟨v, N, x, r, rfl, hN, ok, ⟨q, rfl, hq⟩, hm, k⟩ := h
  obtain ⟨p, dx, fs, d1, d2, rfl, hp, h1, h2, _, _, m1, m2, m3, m4, m5, m6⟩ := hN.un
  have nd := sc_refresh_key.nd
  refine ⟨_, (pss_one (ps_ret (pe_tup (pa_cons (pe_ix ix_tup (pv 1) pe_int (fun _ _ => rfl)) (pa_cons (pe_bm PySem.F.plainAttrs_list PySem.F.slot_list_index PySem.F.type_list_index mt_indexS (C8.pe_mt0 c_m_names hr (by first | decide | omega) (pv 0)) (pa_cons (pe_ix ix_tup (pv 1) pe_int (fun _ _ => rfl)) pa_nil)) pa_nil))))), ?_⟩
  walk_at "rd"
  exact k _ _ (by walk_at "up") (by walk_at "up") (by walk_at "up")
def sp_is_refresh : Sp := fun vs H Q _ => ∃ v N h x r, vs = [v, .int h, x] ∧ NetAt C H v N ∧ NetOk N ∧ RowAt H x r ∧ 1 ≤ r.1 ∧ r.1 ≤ h ∧ r.2 ∈ N.names ∧ ∀ H', Ex TT H H' → Q (.bl true) H'
theorem cal_is_refresh (T : Tx K mg C) (D : DefB K mg "is_refresh" s_is_refresh ["network", "horizon", "value"]) (c_m_names : C8.Met P w K mg base 1 C "names" (sp_m_names (C := C) TT) []) (c_is_integer : C8.Cal P w K mg base 1 "is_integer" sp_is_integer []) : C8.Cal P w K mg base 2 "is_refresh" (sp_is_refresh (C := C) TT) [] := by
  refine cal_of D sc_is_refresh (fun vs H Q E h => by obtain ⟨_, _, _, _, _, rfl, _⟩ := h; rfl) (fun fa cdv A outer s H vs Q E hr h => ?_)
  obtain ⟨v, N, hz, x, r, rfl, hN, ok, ⟨q, rfl, hq⟩, r1, r2, hm, k⟩ := h
  obtain ⟨p, dx, fs, d1, d2, rfl, hp, h1, h2, _, _, m1, m2, m3, m4, m5, m6⟩ := hN.un
  have nd := sc_is_refresh.nd
  have c2 : (!decide (1 ≤ r.1 ∧ r.1 ≤ hz)) = false := by rw [decide_eq_true ⟨r1, r2⟩] <;> rfl
  have c3 : inV (V.str r.2) (N.names.map V.str) = true := by rw [inV_strs]; exact decide_eq_true hm
  refine ⟨_, (pss_cons (ps_if (PW.pt (pw_or (pt_not (pt_val (pe_callB call_isi (by rfl) T.n_isinstance (by decide +kernel) (pa_cons (pv 2) (pa_cons (pe_bltn (v := .ty "tuple") (by rfl) T.n_tuple (by decide +kernel) rfl) pa_nil))))) (pw_or (pt_cmpR op_ne (pe_callB call_len_seq (by rfl) T.n_len (by decide +kernel) (pa_cons (pv 2) pa_nil)) pe_int (nomark _)) (pw_or1 (pt_not (pt_val (C8.pe_c c_is_integer hr (by first | decide | omega) (by rfl) (pa_cons (pe_ix ix_tup (pv 2) pe_int (fun _ _ => rfl)) (pa_cons pe_int (pa_cons (pv 1) pa_nil)))))))))) (pss_one (ps_ret pe_bl)) pss_nil)
      (pss_one (ps_ret (pe_and (pe_callB call_isi (by rfl) T.n_isinstance (by decide +kernel) (pa_cons (pe_ix ix_tup (pv 2) pe_int (fun _ _ => rfl)) (pa_cons (pe_bltn (v := .ty "str") (by rfl) T.n_str (by decide +kernel) rfl) pa_nil))) (pe_one (pe_cmpR op_in_seq (pe_ix ix_tup (pv 2) pe_int (fun _ _ => rfl)) (C8.pe_mt0 c_m_names hr (by first | decide | omega) (pv 0)) rfl)))))), ?_⟩
  walk_at "rd"
  show Q (V.bl (inV (V.str r.2) (N.names.map V.str))) _
  rw [c3]
  exact k _ (by walk_at "up")
def sp_is_query : Sp := fun vs H Q _ => ∃ v N h x r, vs = [v, .int h, x] ∧ NetAt C H v N ∧ NetOk N ∧ QryAt H x r ∧ 0 ≤ r.1 ∧ r.1 ≤ h ∧ r.2.1 ∈ N.names ∧ 0 ≤ r.2.2 ∧ r.2.2 ≤ 999 ∧ ∀ H', Ex TT H H' → Q (.bl true) H'
theorem cal_is_query (T : Tx K mg C) (D : DefB K mg "is_query" s_is_query ["network", "horizon", "value"]) (c_m_names : C8.Met P w K mg base 1 C "names" (sp_m_names (C := C) TT) []) (c_is_integer : C8.Cal P w K mg base 1 "is_integer" sp_is_integer []) : C8.Cal P w K mg base 2 "is_query" (sp_is_query (C := C) TT) [] := by
  refine cal_of D sc_is_query (fun vs H Q E h => by obtain ⟨_, _, _, _, _, rfl, _⟩ := h; rfl) (fun fa cdv A outer s H vs Q E hr h => ?_)
  obtain ⟨v, N, hz, x, r, rfl, hN, ok, ⟨q, rfl, hq⟩, r1, r2, hm, r3, r4, k⟩ := h
  obtain ⟨p, dx, fs, d1, d2, rfl, hp, h1, h2, _, _, m1, m2, m3, m4, m5, m6⟩ := hN.un
  have nd := sc_is_query.nd
  have c2 : (!decide (0 ≤ r.1 ∧ r.1 ≤ hz)) = false := by rw [decide_eq_true ⟨r1, r2⟩] <;> rfl
  have c3 : (!inV (V.str r.2.1) (N.names.map V.str)) = false := by rw [inV_strs, decide_eq_true hm] <;> rfl
  have c4 : decide (0 ≤ r.2.2 ∧ r.2.2 ≤ 999) = true := decide_eq_true ⟨r3, r4⟩
  refine ⟨_, (pss_cons (ps_if (PW.pt (pw_or (pt_not (pt_val (pe_callB call_isi (by rfl) T.n_isinstance (by decide +kernel) (pa_cons (pv 2) (pa_cons (pe_bltn (v := .ty "tuple") (by rfl) T.n_tuple (by decide +kernel) rfl) pa_nil))))) (pw_or (pt_cmpR op_ne (pe_callB call_len_seq (by rfl) T.n_len (by decide +kernel) (pa_cons (pv 2) pa_nil)) pe_int (nomark _)) (pw_or1 (pt_not (pt_val (C8.pe_c c_is_integer hr (by first | decide | omega) (by rfl) (pa_cons (pe_ix ix_tup (pv 2) pe_int (fun _ _ => rfl)) (pa_cons pe_int (pa_cons (pv 1) pa_nil)))))))))) (pss_one (ps_ret pe_bl)) pss_nil)
      (pss_cons (ps_if (PW.pt (pw_or (pt_not (pt_val (pe_callB call_isi (by rfl) T.n_isinstance (by decide +kernel) (pa_cons (pe_ix ix_tup (pv 2) pe_int (fun _ _ => rfl)) (pa_cons (pe_bltn (v := .ty "str") (by rfl) T.n_str (by decide +kernel) rfl) pa_nil))))) (pw_or1 (pt_cmpR op_notIn_seq (pe_ix ix_tup (pv 2) pe_int (fun _ _ => rfl)) (C8.pe_mt0 c_m_names hr (by first | decide | omega) (pv 0)) rfl)))) (pss_one (ps_ret pe_bl)) pss_nil)
      (pss_one (ps_ret (C8.pe_c c_is_integer hr (by first | decide | omega) (by rfl) (pa_cons (pe_ix ix_tup (pv 2) pe_int (fun _ _ => rfl)) (pa_cons pe_int (pa_cons (C8.pe_gc (v := .int 999) (by rfl) T.c_MAX_TOLERANCE) pa_nil)))))))), ?_⟩
  walk_at "rd"
  show Q (V.bl (decide (0 ≤ r.2.2 ∧ r.2.2 ≤ 999))) _
  rw [c4]
  exact k _ (by walk_at "up")
def sp_check_query : Sp := fun vs H Q _ => ∃ v N h x r, vs = [v, .int h, x] ∧ NetAt C H v N ∧ NetOk N ∧ QryAt H x r ∧ 0 ≤ r.1 ∧ r.1 ≤ h ∧ r.2.1 ∈ N.names ∧ 0 ≤ r.2.2 ∧ r.2.2 ≤ 999 ∧ ∀ H', Ex TT H H' → Q .non H'
theorem cal_check_query (T : Tx K mg C) (D : DefB K mg "check_query" s_check_query ["network", "horizon", "query"]) (c_is_query : C8.Cal P w K mg base 2 "is_query" (sp_is_query (C := C) TT) []) : C8.Cal P w K mg base 3 "check_query" (sp_check_query (C := C) TT) [] := by
  refine cal_of D sc_check_query (fun vs H Q E h => by obtain ⟨_, _, _, _, _, rfl, _⟩ := h; rfl) (fun fa cdv A outer s H vs Q E hr h => ?_)
  obtain ⟨v, N, hz, x, r, rfl, hN, ok, hq, r1, r2, hm, r3, r4, k⟩ := h
  have nd := sc_check_query.nd
  refine ⟨_, (pss_one (ps_if (pt_not (pt_val (C8.pe_c c_is_query hr (by first | decide | omega) (by rfl) (pa_cons (pv 0) (pa_cons (pv 1) (pa_cons (pv 2) pa_nil)))))) (pss_one ps_never) pss_nil)), ?_⟩
  walk_at "rd"
  exact k _ (by walk_at "up")
end
end Rf
end

set_option Elab.async false
set_option linter.all false
set_option maxRecDepth 100000
set_option maxHeartbeats 4000000
set_option pp.maxSteps 1500
section
open PySem PySem.Spec PyProof.Rows L2 Rf
local macro_rules | `(tactic| walk_at "up") => `(tactic| first | assumption | exact Ex.refl _ | exact upd_same | (apply upd_at; (focus assumption); walk_at "up") | (apply upd_at'; (focus assumption); walk_at "up") | (apply Ex.mutL; (focus (walk_at "up")); (focus (walk_at "up")); walk_at "up") | (apply Ex.mutD; (focus (walk_at "up")); (focus (walk_at "up")); walk_at "up") | (apply Ex.free'; (focus assumption); walk_at "up") | (apply Ex.atT; (focus assumption); walk_at "up") | (apply Ex.atL; (focus assumption); walk_at "up") | (apply Ex.atD; (focus assumption); walk_at "up") | (apply Ex.atI; (focus assumption); walk_at "up") | (apply Ex.atF; (focus assumption); walk_at "up") | (apply Ex.then'; (focus assumption); walk_at "up") | (apply NetAt.ex; (focus assumption); walk_at "up") | (apply PartsAt.ex; (focus assumption); walk_at "up") | (apply PlanAt.ex; (focus assumption); walk_at "up") | (apply QrsAt.ex; (focus assumption); walk_at "up") | (apply SrcD.ex; (focus assumption); walk_at "up") | (apply VwD.ex; (focus assumption); walk_at "up") | (apply SeqIs.ex; (focus assumption); walk_at "up") | (apply NetAt.ex'; (focus assumption); walk_at "up") | (apply PartsAt.ex'; (focus assumption); walk_at "up") | (apply PlanAt.ex'; (focus assumption); walk_at "up") | (apply QrsAt.ex'; (focus assumption); walk_at "up") | (apply SrcD.ex'; (focus assumption); walk_at "up") | (apply VwD.ex'; (focus assumption); walk_at "up") | (apply SeqIs.ex'; (focus assumption); walk_at "up") | (apply Ex.atT'; (focus assumption); walk_at "up") | (apply Ex.atL'; (focus assumption); walk_at "up") | (apply Ex.atD'; (focus assumption); walk_at "up") | (apply Ex.atI'; (focus assumption); walk_at "up") | (with_reducible apply FrmAt.ex'; (focus assumption); walk_at "up") | (with_reducible apply VwAt.ex'; (focus assumption); walk_at "up") | (with_reducible apply RowAt.ex'; (focus assumption); walk_at "up") | (with_reducible apply SrcAt.ex'; (focus assumption); walk_at "up") | (with_reducible apply QryAt.ex'; (focus assumption); walk_at "up") | (with_reducible apply Rows.ex'; (focus assumption); walk_at "up") | (with_reducible apply StAt.exE; (focus assumption); walk_at "up") | (with_reducible apply sqU; (focus assumption); assumption) | (with_reducible apply sqE; (focus assumption); walk_at "up") | (with_reducible apply sqM; (focus assumption); (focus (walk_at "ne")); walk_at "up") | (with_reducible apply Ex.tabs'; (focus assumption); walk_at "up") | (with_reducible apply Ex.thenM; (focus assumption); (focus (walk_at "up")); walk_at "up") | (with_reducible apply Ex.thenMM; (focus assumption); walk_at "up") | (with_reducible apply atML; (focus assumption); (focus (walk_at "ne")); walk_at "up") | (with_reducible apply atMD; (focus assumption); (focus (walk_at "ne")); walk_at "up") | (with_reducible apply atMT; (focus assumption); (focus (walk_at "ne")); walk_at "up"))
local macro_rules | `(tactic| walk_at "ne") => `(tactic| first | assumption | (apply ne_st; (focus assumption); (walk_at "up")))
local macro_rules | `(tactic| walk_at "sv") => `(tactic| first | rfl | assumption | exact Ex.refl _ | exact ClsV.ty _ | (apply TyX.base; first | exact TyOf.int _ | exact TyOf.str _ | exact TyOf.bl _ | (apply TyOf.tup; walk_at "up") | (apply TyOf.lst; walk_at "up") | (apply TyOf.dK; walk_at "up")) | exact kit_ty (by decide +kernel) | (apply Rd.of; walk_at "up") | (apply DGet_some; (focus (walk_at "up")); assumption) | (apply DGet_f; (focus (walk_at "up")); assumption) | (apply DGet_s; walk_at "up") | (apply DPut_s; (focus (walk_at "up")); omega) | (apply sz5; simp only [List.length_map, List.length_append, List.length_cons, List.length_nil]; omega) | (apply sz4; simp only [List.length_map, List.length_append, List.length_cons, List.length_nil]; omega) | (apply SqL.of; walk_at "up") | (apply SqT.of; walk_at "up") | (apply Or.inl; apply SqL.of; walk_at "up") | (apply Or.inr; apply SqT.of; walk_at "up") | (apply Exists.intro; first | (apply SqL.of; walk_at "up") | (apply SqT.of; walk_at "up")) | exact flatStrs _ | (apply dp_nil; walk_at "up") | (apply dp_strs; walk_at "up") | (apply dp_ints; walk_at "up") | (apply dp_row; walk_at "up") | (apply dp_rowL; walk_at "up") | (apply dp_rows; (focus (walk_at "up")); walk_at "up") | exact shaped_nil | exact shaped_ints | (apply shaped_strs; assumption) | (apply shaped_rows; assumption) | (apply shaped_row; assumption) | (with_reducible apply RowAt.mk; walk_at "up") | (apply tyL; walk_at "up") | (apply tyD; walk_at "up") | (with_reducible apply cmul_r; constructor <;> omega) | (with_reducible apply cmul_l; constructor <;> omega) | (with_reducible apply cdiv_i; constructor <;> omega) | walk_at "up" | (with_reducible apply ne_st; (focus assumption); walk_at "up") | omega | (dsimp only; omega) | decide | (simp only [List.length_map, List.length_append, List.length_cons, List.length_nil]; omega))
local macro_rules | `(tactic| walk_at "cn") => `(tactic| first | assumption | omega | (dsimp only; omega) | (simp only [List.length_map, List.length_append, List.length_cons, List.length_nil, List.length_reverse]; omega) | decide)
local macro_rules | `(tactic| walk_at "rd") => `(tactic| first
  | (with_reducible show LcGo _ _ _ _ _ _ _ _)
  | (with_reducible show DcGo _ _ _ _ _ _ _ _ _)
  | (with_reducible show ForGo _ _ _ _ _ _)
  | (refine allocI (fun p hp => ?_); generalize hh : upd _ _ _ = H2; have e := exNew (T := ‹Tb›) hh hp; have h := updAt hh; clear hh; walk_at "rd")
  | (apply And.intro; (focus (walk_at "sv")); walk_at "rd")
  | (apply Exists.intro; walk_at "rd")
  | (refine iteY ?_ ?_; (focus (walk_at "cn")); walk_at "rd")
  | (refine iteN ?_ ?_; (focus (walk_at "cn")); walk_at "rd")
  | (refine iteY' ?_ ?_; (focus (walk_at "cn")); walk_at "rd")
  | (refine iteN' ?_ ?_; (focus (walk_at "cn")); walk_at "rd")
  | (refine iteBt ?_ ?_; (focus (first | assumption | decide +kernel)); walk_at "rd")
  | (refine iteBf ?_ ?_; (focus (first | assumption | decide +kernel)); walk_at "rd")
  | (intro _; walk_at "rd") | skip)
namespace Rf
section
variable {P : Program} {w : World} {K : PySem.W.Frag} {mg : Str → Option Value} {base : Heap} {C : Addr} (TT : Tb)
/-- the order of a plan -/
def lexR (N : Net) (a b : Int × Str) : Prop := a.1 < b.1 ∨ (a.1 = b.1 ∧ N.idx a.2 < N.idx b.2)
structure PlanOk (N : Net) (h : Int) (pl : Plan) : Prop where
  len : pl.length ≤ 400
  el : ∀ r ∈ pl, 1 ≤ r.1 ∧ r.1 ≤ h ∧ r.2 ∈ N.names
  up : pl.Pairwise (lexR N)
def KeyAt (N : Net) (H : Hp) (y : V) (r : Int × Str) : Prop := ∃ t, y = .ref t ∧ H t = some (.tup [.int r.1, .int (N.idx r.2 : Nat)])
theorem lex_two {N : Net} {a b : Int × Str} (h : lexR N a b) : HT.lexLt [a.1, (N.idx a.2 : Nat)] [b.1, (N.idx b.2 : Nat)] = true := by
  unfold lexR at h
  rw [HT.lexLt_cons]
  by_cases e : a.1 = b.1
  · rw [if_pos e, HT.lexLt_cons, if_neg (by omega)]
    exact decide_eq_true (by omega)
  · rw [if_neg e]
    exact decide_eq_true (by omega)
def sp_check_plan : Sp := fun vs H Q _ => ∃ v N h x pl, vs = [v, .int h, x] ∧ NetAt C H v N ∧ NetOk N ∧ PlanAt H x pl ∧ PlanOk N h pl ∧ ∀ H', Ex TT H H' → Q .non H'
theorem cal_check_plan (T : Tx K mg C) (D : DefB K mg "check_plan" s_check_plan ["network", "horizon", "plan"]) (c_is_refresh : C8.Cal P w K mg base 2 "is_refresh" (sp_is_refresh (C := C) TT) []) (c_refresh_key : C8.Cal P w K mg base 2 "refresh_key" (sp_refresh_key (C := C) TT) []) : C8.Cal P w K mg base 3 "check_plan" (sp_check_plan (C := C) TT) [] := by
  refine cal_of D sc_check_plan (fun vs H Q E h => by obtain ⟨_, _, _, _, _, rfl, _⟩ := h; rfl) (fun fa cdv A outer s H vs Q E hr h => ?_)
  obtain ⟨v, N, hz, x, pl, rfl, hN, ok, ⟨p, xs, rfl, hp, hx⟩, po, k⟩ := h
  obtain ⟨pn, dx, fs, d1, d2, rfl, hpn, h1, h2, _, _, m1, m2, m3, m4, m5, m6⟩ := hN.un
  have nd := sc_check_plan.nd
  obtain ⟨t, t1, t2, t3⟩ := seq_ty (K := K) (T := TT) hp
  refine ⟨_, (pss_cons (ps_if (PW.pt (pw_or (pt_not (pt_val (pe_callB call_isiT (by rfl) T.n_isinstance (by decide +kernel) (pa_cons (pv 2) (pa_cons (pe_tup (pa_cons (pe_bltn (v := .ty "list") (by rfl) T.n_list (by decide +kernel) rfl) (pa_cons (pe_bltn (v := .ty "tuple") (by rfl) T.n_tuple (by decide +kernel) rfl) pa_nil))) pa_nil))))) (pw_or1 (pt_not (pt_val (pe_callB (cr_all rfl) (by rfl) T.n_all (by decide +kernel) (pa_cons (lcX (pe_lc (g := (gName 4)) rfl nd (pi_seq (pv 2)) (blkOk_by (own := [("one", 4)]) (N := N_check_plan) (sc := C8.fnScope s_check_plan) (by decide +kernel)) (fun _ _ _ _ _ => (pg_name (i := 4) nd rfl (Or.inl rfl) (by first | exact Or.inr rfl | exact Or.inl rfl))) (fun _ _ _ _ _ => pts_nil) (fun _ _ _ _ _ => (C8.pe_c c_is_refresh hr (by first | decide | omega) (by rfl) (pa_cons (pv 0) (pa_cons (pv 1) (pa_cons (pv 4) pa_nil))))))) pa_nil))))))) (pss_one ps_never) pss_nil)
      (pss_cons (slcX (ps_setLc (i := 3) (g := (gName 4)) rfl nd rfl rfl (sw_true rfl rfl rfl (by decide +kernel)) (pi_seq (pv 2)) (blkOk_by (own := [("one", 4)]) (N := N_check_plan) (sc := C8.fnScope s_check_plan) (by decide +kernel)) (fun _ _ _ _ _ => (pg_name (i := 4) nd rfl (Or.inl rfl) (by first | exact Or.inr rfl | exact Or.inl rfl))) (fun _ _ _ _ _ => pts_nil) (fun _ _ _ _ _ => (C8.pe_c c_refresh_key hr (by first | decide | omega) (by rfl) (pa_cons (pv 0) (pa_cons (pv 4) pa_nil))))))
      (pss_one (ps_if (pt_not (pt_val (pe_callB (cr_all rfl) (by rfl) T.n_all (by decide +kernel) (pa_cons (lcX (pe_lc (g := (gTup K 2 (gCons (gName 4) (gCons (gName 5) gNil)))) rfl nd (pi_zip (by rfl) T.n_zip (pa_cons (pv 3) (pa_cons (pe_slice sl_list (pv 3) (po_some pe_int) po_none) pa_nil))) (blkOk_by (own := [("one", 4), ("other", 5)]) (N := N_check_plan) (sc := C8.fnScope s_check_plan) (by decide +kernel)) (fun _ _ _ _ _ => (pg_tup rfl (pgs_cons (pg_name (i := 4) nd rfl (Or.inl rfl) (by first | exact Or.inr rfl | exact Or.inl rfl)) (pgs_cons (pg_name (i := 5) nd rfl (Or.inl rfl) (by first | exact Or.inr rfl | exact Or.inl rfl)) pgs_nil)))) (fun _ _ _ _ _ => pts_nil) (fun _ _ _ _ _ => (pe_cmpR (op_ltTK (K := K) hr.units0) (pv 4) (pv 5) (nomark _))))) pa_nil)))) (pss_one ps_never) pss_nil)))), ?_⟩
  walk_at "rd"
  rename_i q1 hq1 H1 e1 hq1'
  refine ⟨t2 _ (by walk_at "up"), t3, ?_⟩
  walk_at "rd"
  rename_i J o no ho wk
  have l1 := po.len
  have hx1 : Rows H1 xs pl := by walk_at "up"
  refine lc_allW (T := TT) pl (RowAt H1) no ho wk hx1 (by omega) ?_ ?_
  · intro b x Hc K1 K0 hb hv ec k1
    obtain ⟨b1, b2, b3⟩ := po.el b hb
    walk_at "rd"
    exact k1 _ (by walk_at "up")
  · intro D2 H2 hD2 e2 hd2 a1 a2
    walk_at "rd"
    rename_i J2 o2 no2 ho2 wk2
    have hx2 : Rows H2 xs pl := by walk_at "up"
    refine lc_walkP (T := TT) pl (RowAt H2) no2 ho2 wk2 hx2 (by omega) (fun _ => true) (KeyAt N) (fun y b Ha Hb tu h => by obtain ⟨t, h1, h2⟩ := h; exact ⟨t, h1, tu _ _ h2⟩) ?_ ?_
    · intro b x Hc K1 K0 hb hv ec k1 k0
      obtain ⟨b1, b2, b3⟩ := po.el b hb
      have hv' : RowAt Hc x b := by walk_at "up"
      walk_at "rd"
      exact k1 rfl _ _ (by walk_at "up") ⟨_, rfl, by walk_at "up"⟩
    · intro D3 ys H3 hD3 e3 hd3 hky
      rw [filt_true] at hky
      have ly := Paired.length hky
      have ly' : ys.length ≤ 1000 := by omega
      walk_at "rd"
      rename_i q4 hq4 H4 e4 hd4
      have hcut : cutV ys (some 1) none = ys.drop 1 := by
        unfold cutV
        rw [HT.sIx_none, show HT.sIx ys.length 0 (some 1) = min 1 ys.length from HT.sIx_nat _ _ 1]
        cases ys with
        | nil => rfl
        | cons a r => simp
      rw [hcut] at hd4
      have hn : (List.range (ys.length - 1)).length = min ys.length (ys.drop 1).length := by
        rw [List.length_range, List.length_drop]
        omega
      have hd4' : H4 D3 = some (.lst ys) := by walk_at "up"
      refine lc_all (T := TT) (List.range (ys.length - 1)) (walk_zip hn) (by rw [List.length_range]; omega) (fun H' e => ⟨SqL.of (e.at hd4'), SqL.of (e.at hd4)⟩) ?_ ?_
      · intro i b x Hc Hc' K1 K0 hb ec y k1
        obtain ⟨T0, y1, y2, rfl, hT0, hcc, g1, g2⟩ := y
        have g2 : (ys.drop 1)[i]? = some y2 := g2
        have g2 : ys[i + 1]? = some y2 := by rw [List.getElem?_drop] at g2; rw [← g2]; congr 1; omega
        have hi : i + 1 < ys.length := (List.getElem?_eq_some_iff.mp g2).1
        obtain ⟨r1, hr1⟩ : ∃ r, pl[i]? = some r := ⟨pl[i]'(by omega), List.getElem?_eq_getElem _⟩
        obtain ⟨r2, hr2⟩ : ∃ r, pl[i + 1]? = some r := ⟨pl[i + 1]'(by omega), List.getElem?_eq_getElem _⟩
        obtain ⟨z1, hz1, k1'⟩ := Paired.at hky hr1
        obtain ⟨z2, hz2, k2'⟩ := Paired.at hky hr2
        rw [show ys[i]? = some y1 from g1] at hz1
        rw [g2] at hz2
        cases hz1
        cases hz2
        obtain ⟨t1, rfl, w1⟩ := k1'
        obtain ⟨t2, rfl, w2⟩ := k2'
        generalize hh : upd _ _ _ = Hn at hcc
        have e5 := exNew (T := TT) hh hT0
        have w5 := updAt hh
        subst hcc
        have hlt : lexR N r1 r2 := by
          obtain ⟨q1, q2⟩ := List.getElem?_eq_some_iff.mp hr1
          obtain ⟨q3, q4⟩ := List.getElem?_eq_some_iff.mp hr2
          rw [← q2, ← q4]
          exact List.pairwise_iff_getElem.mp po.up i (i + 1) q1 q3 (by omega)
        have hl := lex_two hlt
        have w1' : SqT K Hc' t1 ([r1.1, (N.idx r1.2 : Nat)].map V.int) := SqT.of (by walk_at "up")
        have w2' : SqT K Hc' t2 ([r2.1, (N.idx r2.2 : Nat)].map V.int) := SqT.of (by walk_at "up")
        walk_at "rd"
        rw [hl]
        exact k1 _ (by walk_at "up")
      · intro D5 H5 hD5 e5 hd5 a3 a4
        walk_at "rd"
        exact k _ (by walk_at "up")
def sp_check_queries : Sp := fun vs H Q _ => ∃ v N h x qs, vs = [v, .int h, x] ∧ NetAt C H v N ∧ NetOk N ∧ QrsAt H x qs ∧ 1 ≤ qs.length ∧ qs.length ≤ 20 ∧ (∀ r ∈ qs, 0 ≤ r.1 ∧ r.1 ≤ h ∧ r.2.1 ∈ N.names ∧ 0 ≤ r.2.2 ∧ r.2.2 ≤ 999) ∧ ∀ H', Ex TT H H' → Q .non H'
theorem cal_check_queries (T : Tx K mg C) (D : DefB K mg "check_queries" s_check_queries ["network", "horizon", "queries"]) (c_check_query : C8.Cal P w K mg base 3 "check_query" (sp_check_query (C := C) TT) []) : C8.Cal P w K mg base 4 "check_queries" (sp_check_queries (C := C) TT) [] := by
  refine cal_of D sc_check_queries (fun vs H Q E h => by obtain ⟨_, _, _, _, _, rfl, _⟩ := h; rfl) (fun fa cdv A outer s H vs Q E hr h => ?_)
  obtain ⟨v, N, hz, x, qs, rfl, hN, ok, ⟨p, xs, rfl, hp, hx⟩, l1, l2, hq, k⟩ := h
  have nd := sc_check_queries.nd
  obtain ⟨t, t1, t2, t3⟩ := seq_ty (K := K) (T := TT) hp
  have lx := Paired.length hx
  refine ⟨_, (pss_cons (ps_if (PW.pt (pw_or (pt_not (pt_val (pe_callB call_isiT (by rfl) T.n_isinstance (by decide +kernel) (pa_cons (pv 2) (pa_cons (pe_tup (pa_cons (pe_bltn (v := .ty "list") (by rfl) T.n_list (by decide +kernel) rfl) (pa_cons (pe_bltn (v := .ty "tuple") (by rfl) T.n_tuple (by decide +kernel) rfl) pa_nil))) pa_nil))))) (pw_or1 (pt_not (pt_chain op_le op_le pe_int (pe_callB call_len_seq (by rfl) T.n_len (by decide +kernel) (pa_cons (pv 2) pa_nil)) (C8.pe_gc (v := .int 20) (by rfl) T.c_MAX_QUERIES)))))) (pss_one ps_never) pss_nil)
      (pss_one (forX (ps_for PassesOwn.never rfl (pi_seq (pv 2)) (pg_name (i := 3) nd rfl (Or.inl rfl) (by first | exact Or.inr rfl | exact Or.inl rfl))
      (pss_one (ps_expr (C8.pe_c c_check_query hr (by first | decide | omega) (by rfl) (pa_cons (pv 0) (pa_cons (pv 1) (pa_cons (pv 3) pa_nil)))))))))), ?_⟩
  walk_at "rd"
  refine ⟨t2 _ (by walk_at "up"), t3, ?_⟩
  walk_at "rd"
  refine ⟨SeqIs.sq hp (by walk_at "up"), ?_⟩
  walk_at "rd"
  rename_i q0 hq0 H2 e1 hq2 J o no ho wk
  refine for_go wk (fun i σ Hc => ∃ u, σ = [some v, some (.int hz), some (.ref p), u] ∧ Ex TT H2 Hc) ⟨_, rfl, Ex.refl _⟩ ?_ ?_ ?_
  · intro i σ Hc hi ⟨u, _, ec⟩
    exact ec.at ho no
  · intro i y σ Hc Hc' hi ⟨u, e, ec⟩ yy
    subst e
    obtain ⟨rfl, hy⟩ := yy
    obtain ⟨b, hb⟩ : ∃ b, qs[i]? = some b := ⟨qs[i]'(by omega), List.getElem?_eq_getElem _⟩
    obtain ⟨a, ha, hs⟩ := Paired.at hx hb
    rw [ha] at hy
    cases hy
    obtain ⟨b1, b2, b3, b4, b5⟩ := hq b (List.mem_of_getElem? hb)
    have hs' : QryAt Hc' y b := by walk_at "up"
    walk_at "rd"
    walk_at "up"
  · rintro σ Hc ⟨u, rfl, ec⟩
    exact k _ (by walk_at "up")
end
end Rf
end

set_option Elab.async false
set_option linter.all false
set_option maxRecDepth 100000
set_option maxHeartbeats 4000000
set_option pp.maxSteps 1500
section
open PySem PySem.Spec PyProof.Rows L2 Rf
local macro_rules | `(tactic| walk_at "up") => `(tactic| first | assumption | exact Ex.refl _ | exact upd_same | (apply upd_at; (focus assumption); walk_at "up") | (apply upd_at'; (focus assumption); walk_at "up") | (apply Ex.mutL; (focus (walk_at "up")); (focus (walk_at "up")); walk_at "up") | (apply Ex.mutD; (focus (walk_at "up")); (focus (walk_at "up")); walk_at "up") | (apply Ex.free'; (focus assumption); walk_at "up") | (apply Ex.atT; (focus assumption); walk_at "up") | (apply Ex.atL; (focus assumption); walk_at "up") | (apply Ex.atD; (focus assumption); walk_at "up") | (apply Ex.atI; (focus assumption); walk_at "up") | (apply Ex.atF; (focus assumption); walk_at "up") | (apply Ex.then'; (focus assumption); walk_at "up") | (apply NetAt.ex; (focus assumption); walk_at "up") | (apply PartsAt.ex; (focus assumption); walk_at "up") | (apply PlanAt.ex; (focus assumption); walk_at "up") | (apply QrsAt.ex; (focus assumption); walk_at "up") | (apply SrcD.ex; (focus assumption); walk_at "up") | (apply VwD.ex; (focus assumption); walk_at "up") | (apply SeqIs.ex; (focus assumption); walk_at "up") | (apply NetAt.ex'; (focus assumption); walk_at "up") | (apply PartsAt.ex'; (focus assumption); walk_at "up") | (apply PlanAt.ex'; (focus assumption); walk_at "up") | (apply QrsAt.ex'; (focus assumption); walk_at "up") | (apply SrcD.ex'; (focus assumption); walk_at "up") | (apply VwD.ex'; (focus assumption); walk_at "up") | (apply SeqIs.ex'; (focus assumption); walk_at "up") | (apply Ex.atT'; (focus assumption); walk_at "up") | (apply Ex.atL'; (focus assumption); walk_at "up") | (apply Ex.atD'; (focus assumption); walk_at "up") | (apply Ex.atI'; (focus assumption); walk_at "up") | (with_reducible apply FrmAt.ex'; (focus assumption); walk_at "up") | (with_reducible apply VwAt.ex'; (focus assumption); walk_at "up") | (with_reducible apply RowAt.ex'; (focus assumption); walk_at "up") | (with_reducible apply SrcAt.ex'; (focus assumption); walk_at "up") | (with_reducible apply QryAt.ex'; (focus assumption); walk_at "up") | (with_reducible apply Rows.ex'; (focus assumption); walk_at "up") | (with_reducible apply StAt.exE; (focus assumption); walk_at "up") | (with_reducible apply sqU; (focus assumption); assumption) | (with_reducible apply sqE; (focus assumption); walk_at "up") | (with_reducible apply sqM; (focus assumption); (focus (walk_at "ne")); walk_at "up") | (with_reducible apply Ex.tabs'; (focus assumption); walk_at "up") | (with_reducible apply Ex.thenM; (focus assumption); (focus (walk_at "up")); walk_at "up") | (with_reducible apply Ex.thenMM; (focus assumption); walk_at "up") | (with_reducible apply atML; (focus assumption); (focus (walk_at "ne")); walk_at "up") | (with_reducible apply atMD; (focus assumption); (focus (walk_at "ne")); walk_at "up") | (with_reducible apply atMT; (focus assumption); (focus (walk_at "ne")); walk_at "up"))
local macro_rules | `(tactic| walk_at "ne") => `(tactic| first | assumption | (apply ne_st; (focus assumption); (walk_at "up")))
local macro_rules | `(tactic| walk_at "sv") => `(tactic| first | rfl | assumption | exact Ex.refl _ | exact ClsV.ty _ | (apply TyX.base; first | exact TyOf.int _ | exact TyOf.str _ | exact TyOf.bl _ | (apply TyOf.tup; walk_at "up") | (apply TyOf.lst; walk_at "up") | (apply TyOf.dK; walk_at "up")) | exact kit_ty (by decide +kernel) | (apply Rd.of; walk_at "up") | (apply DGet_some; (focus (walk_at "up")); assumption) | (apply DGet_f; (focus (walk_at "up")); assumption) | (apply DGet_s; walk_at "up") | (apply DPut_s; (focus (walk_at "up")); omega) | (apply sz5; simp only [List.length_map, List.length_append, List.length_cons, List.length_nil]; omega) | (apply sz4; simp only [List.length_map, List.length_append, List.length_cons, List.length_nil]; omega) | (apply SqL.of; walk_at "up") | (apply SqT.of; walk_at "up") | (apply Or.inl; apply SqL.of; walk_at "up") | (apply Or.inr; apply SqT.of; walk_at "up") | (apply Exists.intro; first | (apply SqL.of; walk_at "up") | (apply SqT.of; walk_at "up")) | exact flatStrs _ | (apply dp_nil; walk_at "up") | (apply dp_strs; walk_at "up") | (apply dp_ints; walk_at "up") | (apply dp_row; walk_at "up") | (apply dp_rowL; walk_at "up") | (apply dp_rows; (focus (walk_at "up")); walk_at "up") | exact shaped_nil | exact shaped_ints | (apply shaped_strs; assumption) | (apply shaped_rows; assumption) | (apply shaped_row; assumption) | (with_reducible apply RowAt.mk; walk_at "up") | (apply tyL; walk_at "up") | (apply tyD; walk_at "up") | (with_reducible apply cmul_r; constructor <;> omega) | (with_reducible apply cmul_l; constructor <;> omega) | (with_reducible apply cdiv_i; constructor <;> omega) | walk_at "up" | (with_reducible apply ne_st; (focus assumption); walk_at "up") | omega | (dsimp only; omega) | decide | (simp only [List.length_map, List.length_append, List.length_cons, List.length_nil]; omega))
local macro_rules | `(tactic| walk_at "cn") => `(tactic| first | assumption | omega | (dsimp only; omega) | (simp only [List.length_map, List.length_append, List.length_cons, List.length_nil, List.length_reverse]; omega) | decide)
local macro_rules | `(tactic| walk_at "rd") => `(tactic| first
  | (with_reducible show LcGo _ _ _ _ _ _ _ _)
  | (with_reducible show DcGo _ _ _ _ _ _ _ _ _)
  | (with_reducible show ForGo _ _ _ _ _ _)
  | (refine allocI (fun p hp => ?_); generalize hh : upd _ _ _ = H2; have e := exNew (T := ‹Tb›) hh hp; have h := updAt hh; clear hh; walk_at "rd")
  | (apply And.intro; (focus (walk_at "sv")); walk_at "rd")
  | (apply Exists.intro; walk_at "rd")
  | (refine iteY ?_ ?_; (focus (walk_at "cn")); walk_at "rd")
  | (refine iteN ?_ ?_; (focus (walk_at "cn")); walk_at "rd")
  | (refine iteY' ?_ ?_; (focus (walk_at "cn")); walk_at "rd")
  | (refine iteN' ?_ ?_; (focus (walk_at "cn")); walk_at "rd")
  | (refine iteBt ?_ ?_; (focus (first | assumption | decide +kernel)); walk_at "rd")
  | (refine iteBf ?_ ?_; (focus (first | assumption | decide +kernel)); walk_at "rd")
  | (intro _; walk_at "rd") | skip)
namespace Rf
section
variable {T : Tb} {H0 H H' : Hp} {d : Addr} {u : HO} {od : Obj}
theorem lk_in (od : Obj) (e : Ex T H0 H) (h0 : H0 d = some u) (w : Wr u = true := by rfl) (n : noTbl u = true := by rfl) : Ex T (upd H0 d (.frz od u)) (upd H d (.frz od u)) := by
  have h1 := e.at h0 n
  have nf : noTbl (.frz od u) = true := rfl
  refine ⟨fun b o q m => ?_, fun b q => ?_, fun t => ?_⟩
  · by_cases z : b = d
    · subst z; rw [upd_same] at q ⊢; exact q
    · rw [upd_ne z] at q ⊢; exact e.ob b o q m
  · by_cases z : b = d
    · subst z; rw [upd_same] at q; cases q
    · rw [upd_ne z] at q ⊢; exact e.al b q
  · have t0 := (Ex.set (T := T) (p := d) (H := upd H0 d (.frz od u)) (o := u) (u := .frz od u) upd_same rfl n).2 t
    have eq : upd (upd H0 d (.frz od u)) d u = H0 := by
      funext b
      by_cases z : b = d
      · subst z; rw [upd_same, h0]
      · rw [upd_ne z, upd_ne z]
    rw [eq] at t0
    exact (Ex.set (T := T) (o := .frz od u) h1 w rfl).2 (e.tb t0)
theorem lk_out (h0 : H0 d = some u) (e : Ex T (upd H0 d (.frz od u)) H') (w : Wr u = true := by rfl) (n : noTbl u = true := by rfl) : H' d = some (.frz od u) ∧ Ex T H0 (upd H' d u) := by
  have h' : H' d = some (.frz od u) := e.at upd_same
  refine ⟨h', fun b o q m => ?_, fun b q => ?_, fun t => ?_⟩
  · by_cases z : b = d
    · subst z; rw [upd_same]; rw [h0] at q; exact q
    · rw [upd_ne z]; exact e.ob b o (by rw [upd_ne z]; exact q) m
  · by_cases z : b = d
    · subst z; rw [upd_same] at q; cases q
    · rw [upd_ne z] at q
      have := e.al b q
      rwa [upd_ne z] at this
  · exact (Ex.set (T := T) (o := u) h' rfl n).2 (e.tb ((Ex.set (T := T) (o := .frz od u) h0 w rfl).2 t))
theorem upd_cover {a p : Addr} {x y o : HO} : upd (upd (upd H a x) p o) a y = upd (upd H p o) a y := by
  funext b
  by_cases z : b = a
  · subst z; rw [upd_same, upd_same]
  · rw [upd_ne z, upd_ne z]
    by_cases q : b = p
    · subst q; rw [upd_same, upd_same]
    · rw [upd_ne q, upd_ne q, upd_ne z]
theorem items_at {β : Type} {R : V → β → Prop} {kvs : List (Key × V)} {l : List (Str × β)} {i : Nat} {s : Str × β} {x : V} (q : DctAt R kvs l) (hb : l[i]? = some s) (y : YPair (fun i => kvs[i]?.map fun kv => kV kv.1) (fun i => kvs[i]?.map Prod.snd) i H x H') :
    ∃ t v, x = .ref t ∧ H t = none ∧ R v s.2 ∧ upd H t (.tup [.str s.1, v]) = H' := by
  obtain ⟨t, y1, y2, rfl, hT0, hcc, g1, g2⟩ := y
  obtain ⟨v, hv, hs⟩ := DctAt.get q hb
  have g1 : kvs[i]?.map (fun kv => kV kv.1) = some y1 := g1
  have g2 : kvs[i]?.map Prod.snd = some y2 := g2
  rw [hv] at g1 g2
  cases g1
  cases g2
  exact ⟨t, v, rfl, hT0, hs, hcc.symm⟩
end
section
variable {P : Program} {w : World} {K : PySem.W.Frag} {mg : Str → Option Value} {base : Heap} {C : Addr} (TT : Tb)
def MakB (K : PySem.W.Frag) (mg : Str → Option Value) (C : Addr) : Prop := ∃ f fd, Mk K C f ∧ C8.Fun K "__init__" "Network.__init__" s_m_init f fd ∧ Binds K fd ["self", "sources", "views"] []
def sp_m_init : Sp := fun vs H Q _ => ∃ a dx d1 d2 N, vs = [.ref a, .ref d1, .ref d2] ∧ H a = some (.ins C dx []) ∧ SrcD H d1 N.src ∧ VwD H d2 N.vws ∧ NetOk N ∧
  ∀ Hm e1 e2, Ex TT H Hm → SrcD Hm e1 N.src → VwD Hm e2 N.vws → Q .non (upd Hm a (.ins C dx [("springs", .ref e1), ("derived", .ref e2)]))
theorem mak_network (T : Tx K mg C) (D : MakB K mg C) (c_is_source : C8.Cal P w K mg base 2 "is_source" (sp_is_source TT) []) (c_is_view : C8.Cal P w K mg base 4 "is_view" (sp_is_view TT) [])  (c_inputs_of : C8.Cal P w K mg base 1 "inputs_of" (sp_inputs_of TT) []) : C8.Mak P w K mg base 5 "Network" C (sp_m_init (C := C) TT) [] := by
  obtain ⟨f, fd, M, F, b⟩ := D
  refine C8.mak0 M T.k_Network F b .nil sc_m_init (fun vs H Q E h => by obtain ⟨_, _, _, _, _, rfl, _⟩ := h; rfl) (fun cdv A outer s H vs Q E hr h => ?_)
  obtain ⟨a, dx, d1, d2, N, rfl, ha, ⟨k1, hk1, q1⟩, ⟨k2, hk2, q2⟩, ok, k⟩ := h
  have nd := sc_m_init.nd
  have cl := T.cl
  have n1 := T.nSp
  have n2 := T.nDe
  have l1 := q1.len
  have l2 := q2.len
  have l3 := ok.s1
  have l5 := ok.s5
  refine ⟨_, (pss_cons (ps_if (PW.pt (pw_or (pt_not (pt_val (pe_callB call_isi (by rfl) T.n_isinstance (by decide +kernel) (pa_cons (pv 1) (pa_cons (pe_bltn (v := .ty "dict") (by rfl) T.n_dict (by decide +kernel) rfl) pa_nil))))) (pw_or1 (pt_not (pt_chain op_le op_le pe_int (pe_callB call_lenD (by rfl) T.n_len (by decide +kernel) (pa_cons (pv 1) pa_nil)) (C8.pe_gc (v := .int 8) (by rfl) T.c_MAX_NODES)))))) (pss_one ps_never) pss_nil)
      (pss_cons (ps_if (pt_not (pt_val (pe_callB (cr_all rfl) (by rfl) T.n_all (by decide +kernel) (pa_cons (lkE (lcX (pe_lc (g := (gTup K 2 (gCons (gName 5) (gCons (gName 6) gNil)))) rfl nd (pi_items (pv 1)) (blkOk_by (own := [("name", 5), ("value", 6)]) (N := N_m_init) (sc := C8.fnScope s_m_init) (by decide +kernel)) (fun _ _ _ _ _ => (pg_tup rfl (pgs_cons (pg_name (i := 5) nd rfl (Or.inl rfl) (by first | exact Or.inr rfl | exact Or.inl rfl)) (pgs_cons (pg_name (i := 6) nd rfl (Or.inl rfl) (by first | exact Or.inr rfl | exact Or.inl rfl)) pgs_nil)))) (fun _ _ _ _ _ => pts_nil) (fun _ _ _ _ _ => (C8.pe_c c_is_source hr (by first | decide | omega) (by rfl) (pa_cons (pv 5) (pa_cons (pv 6) pa_nil))))))) pa_nil)))) (pss_one ps_never) pss_nil)
      (pss_cons (ps_if (PW.pt (pw_or (pt_not (pt_val (pe_callB call_isi (by rfl) T.n_isinstance (by decide +kernel) (pa_cons (pv 2) (pa_cons (pe_bltn (v := .ty "dict") (by rfl) T.n_dict (by decide +kernel) rfl) pa_nil))))) (pw_or1 (pt_cmpR op_gt (pe_op op_add (pe_callB call_lenD (by rfl) T.n_len (by decide +kernel) (pa_cons (pv 1) pa_nil)) (pe_callB call_lenD (by rfl) T.n_len (by decide +kernel) (pa_cons (pv 2) pa_nil))) (C8.pe_gc (v := .int 8) (by rfl) T.c_MAX_NODES) (nomark _))))) (pss_one ps_never) pss_nil)
      (pss_cons (ps_set (i := 3) nd rfl (Or.inl rfl) (pe_callTy (call_listD rfl) (by rfl) T.n_list (by decide +kernel) (pa_cons (pv 1) pa_nil)))
      (pss_cons (ps_set (i := 4) nd rfl (Or.inl rfl) (pe_callTy (call_listD rfl) (by rfl) T.n_list (by decide +kernel) (pa_cons (pv 1) pa_nil)))
      (pss_cons (lkS (forX (ps_for PassesOwn.never rfl (pi_items (pv 2)) (pg_tup rfl (pgs_cons (pg_name (i := 5) nd rfl (Or.inl rfl) (by first | exact Or.inr rfl | exact Or.inl rfl)) (pgs_cons (pg_name (i := 6) nd rfl (Or.inl rfl) (by first | exact Or.inr rfl | exact Or.inl rfl)) pgs_nil)))
      (pss_cons (ps_if (pt_not (pt_val (C8.pe_c c_is_view hr (by first | decide | omega) (by rfl) (pa_cons (pv 5) (pa_cons (pv 6) (pa_cons (pv 4) (pa_cons (pv 3) pa_nil))))))) (pss_one ps_never) pss_nil)
      (pss_cons (ps_set (i := 7) nd rfl (Or.inr rfl) (C8.pe_c c_inputs_of hr (by first | decide | omega) (by rfl) (pa_cons (pe_ix ix_tup (pv 6) pe_int (fun _ _ => rfl)) pa_nil)))
      (pss_cons (ps_set (i := 3) nd rfl (Or.inl rfl) (pe_op op_cat (lcX (pe_lc (g := (gName 8)) rfl nd (pi_list (pv 3)) (blkOk_by (own := [("one", 8)]) (N := N_m_init) (sc := C8.fnScope s_m_init) (by decide +kernel)) (fun _ _ _ _ _ => (pg_name (i := 8) nd rfl (Or.inl rfl) (by first | exact Or.inr rfl | exact Or.inl rfl))) (fun _ _ _ _ _ => pts_one (pt_cmpR (op_notIn_seqK (K := K)) (pv 8) (pv 7) rfl)) (fun _ _ _ _ _ => (pv 8)))) (pe_lst (pa_cons (pv 5) pa_nil))))
      (pss_one (ps_expr (pe_bm PySem.F.plainAttrs_list PySem.F.slot_list_append PySem.F.type_list_append mt_append (pv 4) (pa_cons (pv 5) pa_nil))))))))))
      (pss_cons (ps_fld (pv 0) (pe_callTy call_dictD (by rfl) T.n_dict (by decide +kernel) (pa_cons (pv 1) pa_nil)) rfl)
      (pss_one (ps_fld (pv 0) (pe_callTy call_dictD (by rfl) T.n_dict (by decide +kernel) (pa_cons (pv 2) pa_nil)) rfl))))))))), ?_⟩
  walk_at "rd"
  refine LkE.of ⟨d1, .dK k1, hk1, trivial, fun od => ?_⟩
  generalize hHl : upd H d1 (.frz od (.dK k1)) = Hl
  have tl : Tu H Hl := by rw [← hHl]; exact Tu.set hk1
  have hl1 : Hl d1 = some (.frz od (.dK k1)) := by rw [← hHl]; exact upd_same
  walk_at "rd"
  refine lc_all (T := TT) N.src (by rw [← l1]; exact walk_items (kvs := k1)) (by omega) (fun H' e => e.at hl1) ?_ ?_
  · intro i s b Hc Hc' K1 K0 hb ec y kk
    obtain ⟨T0, v, rfl, hT0, hs, hh⟩ := items_at q1 hb y
    have e5 := exNew (T := TT) hh hT0
    have w5 := updAt hh
    have hs' : SrcAt Hl v s.2 := hs.tu tl
    have hso : SrcOk (s.1, s.2) := ok.so s (List.mem_of_getElem? hb)
    walk_at "rd"
    exact kk _ (by walk_at "up")
  · intro D2 H2 hD2 e2 hd2 a1 a2
    rw [← hHl] at e2
    obtain ⟨g1, e3⟩ := lk_out hk1 e2
    refine ⟨g1, ?_⟩
    have hd3 : upd H2 d1 (.dK k1) D2 = some (.lst ((trues N.src.length).map V.bl)) := by
      rw [upd_ne (fun z => by rw [z, g1] at hd2; cases hd2)]
      exact hd2
    generalize upd H2 d1 (.dK k1) = H3 at e3 hd3
    walk_at "rd"
    rename_i fp hfp H4 e4 hfp4 kp hkp H5 e5 hkp5
    have keys1 : k1.map (fun kv => kV kv.1) = (N.src.map (·.1)).map V.str := q1.keys
    rw [keys1] at hfp4 hkp5
    have e05 : Ex TT H H5 := by walk_at "up"
    refine LkS.of ⟨d2, .dK k2, e05.at hk2, trivial, fun od2 => ?_⟩
    have e04 : Ex TT H H4 := by walk_at "up"
    have ebl := lk_in od2 e05 hk2
    have hkp0 : upd H d2 (.frz od2 (.dK k2)) kp = none := by
      have := e04.al kp hkp
      rw [upd_ne (fun z => by rw [z, hk2] at this; cases this)]
      exact this
    have tb2 : Tu H (upd H d2 (.frz od2 (.dK k2))) := Tu.set hk2
    have hb2 : upd H d2 (.frz od2 (.dK k2)) d2 = some (.frz od2 (.dK k2)) := upd_same
    have hab : upd H d2 (.frz od2 (.dK k2)) a = some (.ins C dx []) := by
      rw [upd_ne (fun z => by rw [z, hk2] at ha; cases ha)]
      exact ha
    have hkpl : upd H5 d2 (.frz od2 (.dK k2)) kp = some (.lst ((N.src.map (·.1)).map V.str)) := by
      have z : H d2 ≠ H kp := by rw [e04.al kp hkp, hk2]; exact fun z => nomatch z
      rw [upd_ne (fun q => z (by rw [q]))]
      exact hkp5
    have hfp5 : H5 fp = some (.lst ((N.src.map (·.1)).map V.str)) := by walk_at "up"
    have hfpl : upd H5 d2 (.frz od2 (.dK k2)) fp = some (.lst ((N.src.map (·.1)).map V.str)) := by
      have z : H d2 ≠ H fp := by rw [(e3.al fp hfp), hk2]; exact fun z => nomatch z
      rw [upd_ne (fun q => z (by rw [q]))]
      exact hfp5
    have hlk : ∀ H', Ex TT (upd H d2 (.frz od2 (.dK k2))) H' → H' d2 = some (.frz od2 (.dK k2)) ∧ Ex TT H (upd H' d2 (.dK k2)) := fun H' e => lk_out hk2 e
    generalize upd H d2 (.frz od2 (.dK k2)) = Hb at ebl hkp0 tb2 hb2 hab hlk
    generalize upd H5 d2 (.frz od2 (.dK k2)) = Hl2 at ebl hkpl hfpl
    have hl2 : Hl2 d2 = some (.frz od2 (.dK k2)) := ebl.at hb2
    walk_at "rd"
    refine for_goB walk_items (fun i σ Hc => ∃ kn fr fa u1 u2 u3, σ = [some (.ref a), some (.ref d1), some (.ref d2), some (.ref fa), some (.ref kp), u1, u2, u3, none] ∧ Ex TT Hb Hc ∧ Hc kp = some (.lst (kn.map V.str)) ∧ Hc fa = some (.lst (fr.map V.str)) ∧ fa ≠ kp ∧
      kn.length ≤ 8 + i ∧ fr.length ≤ 8 + i ∧ VwsOk kn fr (N.vws.drop i)) ?_ (fun i σ Hc hi ⟨_, _, _, _, _, _, _, ec, _⟩ => ec.at hb2) ?_ ?_
    · refine ⟨_, _, fp, none, none, none, rfl, ebl, hkpl, hfpl, fun z => ?_, by rw [List.length_map]; omega, by rw [List.length_map]; omega, ok.vo⟩
      rw [z] at hfp4
      rw [hfp4] at hkp
      cases hkp
    · intro i y σ Hc Hc' hi ⟨kn, fr, fa, u1, u2, u3, es, ec, ck, cf, cne, cl1, cl2, co⟩ yy
      subst es
      obtain ⟨sv, hsv⟩ : ∃ s, N.vws[i]? = some s := ⟨N.vws[i]'(by omega), List.getElem?_eq_getElem _⟩
      obtain ⟨T0, v, rfl, hT0, hs, hh⟩ := items_at q2 hsv yy
      have e6 := exNew (T := TT) hh hT0
      have w6 := updAt hh
      have hi' := (List.getElem?_eq_some_iff.mp hsv).1
      rw [List.drop_eq_getElem_cons hi', (List.getElem?_eq_some_iff.mp hsv).2] at co
      obtain ⟨vo, co⟩ := co
      have hva : VwAt Hb v sv.2 := hs.tu tb2
      obtain ⟨p2, u2', rfl, hp2, hfr2⟩ := id hva
      have lz : sv.2.1.ins.length ≤ 1000 := Nat.le_trans vo.fr.hi (by decide)
      have hkc' : Hc' kp = some (.lst (kn.map V.str)) := by walk_at "up"
      have hfc' : Hc' fa = some (.lst (fr.map V.str)) := by walk_at "up"
      walk_at "rd"
      rename_i H6 e7 up H7 e8 hup hup7
      have hfc7 : H7 fa = some (.lst (fr.map V.str)) := by walk_at "up"
      refine lc_lstP (T := TT) fr (fun v x => v = V.str x) hfc7 (Paired.of_fn _) (by omega) (fun x => decide (x ∉ sv.2.1.names)) (fun _ y x => y = V.str x) (fun _ _ _ _ _ h => h) ?_ ?_
      · intro x v Hx K1 K0 hxm hv ex kk1 kk0
        subst hv
        have hux : Hx up = some (.lst (sv.2.1.names.map V.str)) := by walk_at "up"
        have ein : (!inV (V.str x) (sv.2.1.names.map V.str)) = decide (x ∉ sv.2.1.names) := by
          rw [inV_strs]
          simp
        walk_at "rd"
        refine ite2 (fun hc => ?_) (fun hc => ?_)
        · have hc : (!inV (V.str x) (sv.2.1.names.map V.str)) = true := hc
          rw [ein] at hc
          walk_at "rd"
          exact kk1 hc _ _ (Ex.refl _) rfl
        · have hc : ¬ (!inV (V.str x) (sv.2.1.names.map V.str)) = true := hc
          rw [ein] at hc
          exact kk0 (by simpa using hc) _ (Ex.refl _)
      · intro D8 ys H8 hD8 e9 hd8 qq
        have ey := Paired.fn (f := V.str) qq
        have lf : (fr.filter fun x => decide (x ∉ sv.2.1.names)).length ≤ fr.length := List.length_filter_le _ _
        have ly : ys.length ≤ fr.length := by rw [ey, List.length_map]; exact lf
        walk_at "rd"
        rename_i q9 hq9 H9 e10 hq9' fa' hfa' H10 e11 hfa2
        have ekn : kn.map V.str ++ [V.str sv.1] = (kn ++ [sv.1]).map V.str := by rw [List.map_append, List.map_singleton]
        have efr : ys ++ [V.str sv.1] = (freeBy fr sv).map V.str := by
          unfold freeBy
          rw [List.map_append, List.map_singleton, ey]
        have hkp10 : H9 kp = some (.lst (kn.map V.str)) := by walk_at "up"
        have nfk : fa' ≠ kp := fun z => by
          rw [z, hkp10] at hfa'
          cases hfa'
        have lfb : (freeBy fr sv).length ≤ fr.length + 1 := by
          unfold freeBy
          rw [List.length_append, List.length_singleton]
          omega
        rw [efr] at hfa2
        refine ⟨⟨kn ++ [sv.1], freeBy fr sv, fa', _, _, _, rfl, by walk_at "up", ?_, by walk_at "up", nfk, by rw [List.length_append, List.length_singleton]; omega, by omega, co⟩⟩
        show upd H10 kp (.lst (kn.map V.str ++ [V.str sv.1])) kp = _
        rw [ekn]
        exact upd_same
    · rintro σ Hc ⟨kn, fr, fa, u1, u2, u3, rfl, ec, ck, cf, cne, cl1, cl2, co⟩
      obtain ⟨f1, f2⟩ := hlk _ ec
      refine ⟨f1, ?_⟩
      have hau : upd Hc d2 (.dK k2) a = some (.ins C dx []) := f2.at ha
      generalize upd Hc d2 (.dK k2) = He at f2 hau
      walk_at "rd"
      rename_i s1 hs1 H6 e6 hs6
      have hk6 : H6 d2 = some (.dK k2) := by walk_at "up"
      have nad : a ≠ d2 := fun z => by
        rw [z, hk2] at ha
        cases ha
      refine ⟨Rd.of (upd_at nad hk6), fun s2 hs2 => ?_⟩
      have ha6 : H6 a = some (.ins C dx []) := by walk_at "up"
      have na2 : s2 ≠ a := fun z => by
        rw [z, upd_same] at hs2
        cases hs2
      have hs2' : H6 s2 = none := by rw [upd_ne na2] at hs2; exact hs2
      refine ⟨.ref a, rfl, a, C, dx, [("springs", .ref s1)], rfl, ?_, cl, n2, by simp, ?_⟩
      · rw [upd_ne (Ne.symm na2), upd_same]
        rfl
      · show Q .non (upd (upd (upd H6 a _) s2 _) a _)
        rw [upd_cover]
        generalize hh : upd H6 s2 (.dK k2) = H7
        have e7 := exNew (T := TT) hh hs2'
        have h7 := updAt hh
        have hs7 : H7 s1 = some (.dK k1) := by walk_at "up"
        have e07 : Ex TT H H7 := by walk_at "up"
        exact k H7 s1 s2 e07 ⟨k1, hs7, DctAt.imp q1 fun _ _ z => z.tu e07.tu⟩ ⟨k2, h7, DctAt.imp q2 fun _ _ z => z.tu e07.tu⟩
end
end Rf
end

set_option Elab.async false
set_option linter.all false
set_option maxRecDepth 100000
set_option maxHeartbeats 4000000
set_option pp.maxSteps 1500
section
open PySem PySem.Spec PyProof.Rows L2 Rf
local macro_rules | `(tactic| walk_at "up") => `(tactic| first | assumption | exact Ex.refl _ | exact upd_same | (apply upd_at; (focus assumption); walk_at "up") | (apply upd_at'; (focus assumption); walk_at "up") | (apply Ex.mutL; (focus (walk_at "up")); (focus (walk_at "up")); walk_at "up") | (apply Ex.mutD; (focus (walk_at "up")); (focus (walk_at "up")); walk_at "up") | (apply Ex.free'; (focus assumption); walk_at "up") | (apply Ex.atT; (focus assumption); walk_at "up") | (apply Ex.atL; (focus assumption); walk_at "up") | (apply Ex.atD; (focus assumption); walk_at "up") | (apply Ex.atI; (focus assumption); walk_at "up") | (apply Ex.atF; (focus assumption); walk_at "up") | (apply Ex.then'; (focus assumption); walk_at "up") | (apply NetAt.ex; (focus assumption); walk_at "up") | (apply PartsAt.ex; (focus assumption); walk_at "up") | (apply PlanAt.ex; (focus assumption); walk_at "up") | (apply QrsAt.ex; (focus assumption); walk_at "up") | (apply SrcD.ex; (focus assumption); walk_at "up") | (apply VwD.ex; (focus assumption); walk_at "up") | (apply SeqIs.ex; (focus assumption); walk_at "up") | (apply NetAt.ex'; (focus assumption); walk_at "up") | (apply PartsAt.ex'; (focus assumption); walk_at "up") | (apply PlanAt.ex'; (focus assumption); walk_at "up") | (apply QrsAt.ex'; (focus assumption); walk_at "up") | (apply SrcD.ex'; (focus assumption); walk_at "up") | (apply VwD.ex'; (focus assumption); walk_at "up") | (apply SeqIs.ex'; (focus assumption); walk_at "up") | (apply Ex.atT'; (focus assumption); walk_at "up") | (apply Ex.atL'; (focus assumption); walk_at "up") | (apply Ex.atD'; (focus assumption); walk_at "up") | (apply Ex.atI'; (focus assumption); walk_at "up") | (with_reducible apply FrmAt.ex'; (focus assumption); walk_at "up") | (with_reducible apply VwAt.ex'; (focus assumption); walk_at "up") | (with_reducible apply RowAt.ex'; (focus assumption); walk_at "up") | (with_reducible apply SrcAt.ex'; (focus assumption); walk_at "up") | (with_reducible apply QryAt.ex'; (focus assumption); walk_at "up") | (with_reducible apply Rows.ex'; (focus assumption); walk_at "up") | (with_reducible apply StAt.exE; (focus assumption); walk_at "up") | (with_reducible apply sqU; (focus assumption); assumption) | (with_reducible apply sqE; (focus assumption); walk_at "up") | (with_reducible apply sqM; (focus assumption); (focus (walk_at "ne")); walk_at "up") | (with_reducible apply Ex.tabs'; (focus assumption); walk_at "up") | (with_reducible apply Ex.thenM; (focus assumption); (focus (walk_at "up")); walk_at "up") | (with_reducible apply Ex.thenMM; (focus assumption); walk_at "up") | (with_reducible apply atML; (focus assumption); (focus (walk_at "ne")); walk_at "up") | (with_reducible apply atMD; (focus assumption); (focus (walk_at "ne")); walk_at "up") | (with_reducible apply atMT; (focus assumption); (focus (walk_at "ne")); walk_at "up"))
local macro_rules | `(tactic| walk_at "ne") => `(tactic| first | assumption | (apply ne_st; (focus assumption); (walk_at "up")))
local macro_rules | `(tactic| walk_at "sv") => `(tactic| first | rfl | assumption | exact Ex.refl _ | exact ClsV.ty _ | (apply TyX.base; first | exact TyOf.int _ | exact TyOf.str _ | exact TyOf.bl _ | (apply TyOf.tup; walk_at "up") | (apply TyOf.lst; walk_at "up") | (apply TyOf.dK; walk_at "up")) | exact kit_ty (by decide +kernel) | (apply Rd.of; walk_at "up") | (apply DGet_some; (focus (walk_at "up")); assumption) | (apply DGet_f; (focus (walk_at "up")); assumption) | (apply DGet_s; walk_at "up") | (apply DPut_s; (focus (walk_at "up")); omega) | (apply sz5; simp only [List.length_map, List.length_append, List.length_cons, List.length_nil]; omega) | (apply sz4; simp only [List.length_map, List.length_append, List.length_cons, List.length_nil]; omega) | (apply SqL.of; walk_at "up") | (apply SqT.of; walk_at "up") | (apply Or.inl; apply SqL.of; walk_at "up") | (apply Or.inr; apply SqT.of; walk_at "up") | (apply Exists.intro; first | (apply SqL.of; walk_at "up") | (apply SqT.of; walk_at "up")) | exact flatStrs _ | (apply dp_nil; walk_at "up") | (apply dp_strs; walk_at "up") | (apply dp_ints; walk_at "up") | (apply dp_row; walk_at "up") | (apply dp_rowL; walk_at "up") | (apply dp_rows; (focus (walk_at "up")); walk_at "up") | exact shaped_nil | exact shaped_ints | (apply shaped_strs; assumption) | (apply shaped_rows; assumption) | (apply shaped_row; assumption) | (with_reducible apply RowAt.mk; walk_at "up") | (apply tyL; walk_at "up") | (apply tyD; walk_at "up") | (with_reducible apply cmul_r; constructor <;> omega) | (with_reducible apply cmul_l; constructor <;> omega) | (with_reducible apply cdiv_i; constructor <;> omega) | walk_at "up" | (with_reducible apply ne_st; (focus assumption); walk_at "up") | omega | (dsimp only; omega) | decide | (simp only [List.length_map, List.length_append, List.length_cons, List.length_nil]; omega))
local macro_rules | `(tactic| walk_at "cn") => `(tactic| first | assumption | omega | (dsimp only; omega) | (simp only [List.length_map, List.length_append, List.length_cons, List.length_nil, List.length_reverse]; omega) | decide)
local macro_rules | `(tactic| walk_at "rd") => `(tactic| first
  | (with_reducible show LcGo _ _ _ _ _ _ _ _)
  | (with_reducible show DcGo _ _ _ _ _ _ _ _ _)
  | (with_reducible show ForGo _ _ _ _ _ _)
  | (refine allocI (fun p hp => ?_); generalize hh : upd _ _ _ = H2; have e := exNew (T := ‹Tb›) hh hp; have h := updAt hh; clear hh; walk_at "rd")
  | (apply And.intro; (focus (walk_at "sv")); walk_at "rd")
  | (apply Exists.intro; walk_at "rd")
  | (refine iteY ?_ ?_; (focus (walk_at "cn")); walk_at "rd")
  | (refine iteN ?_ ?_; (focus (walk_at "cn")); walk_at "rd")
  | (refine iteY' ?_ ?_; (focus (walk_at "cn")); walk_at "rd")
  | (refine iteN' ?_ ?_; (focus (walk_at "cn")); walk_at "rd")
  | (refine iteBt ?_ ?_; (focus (first | assumption | decide +kernel)); walk_at "rd")
  | (refine iteBf ?_ ?_; (focus (first | assumption | decide +kernel)); walk_at "rd")
  | (intro _; walk_at "rd") | skip)
/-! ### stamps, ages and bounds in plain data -/
namespace Rf
section
theorem absI_def : True := trivial
def absI (i : Int) : Int := if i < 0 then -i else i
def maxL : List Int → Int
  | [] => 0
  | [a] => a
  | a :: b :: r => max a (maxL (b :: r))
theorem maxL_ge : ∀ {l : List Int} {y : Int}, y ∈ l → y ≤ maxL l
  | [a], y, h => by simp at h; subst h; exact Int.le_refl _
  | a :: b :: r, y, h => by
    rw [maxL]
    rcases List.mem_cons.mp h with rfl | h
    · omega
    · have := maxL_ge h
      omega
theorem maxL_mem : ∀ {l : List Int}, 0 < l.length → maxL l ∈ l
  | [a], _ => by simp [maxL]
  | a :: b :: r, _ => by
    rw [maxL]
    have := maxL_mem (l := b :: r) (by simp)
    by_cases h : a ≤ maxL (b :: r)
    · rw [show max a (maxL (b :: r)) = maxL (b :: r) by omega]
      exact List.mem_cons_of_mem _ this
    · rw [show max a (maxL (b :: r)) = a by omega]
      exact List.mem_cons_self
theorem maxL_eq {l : List Int} {m : Int} (h : m ∈ l) (k : ∀ y ∈ l, y ≤ m) : m = maxL l := by
  have h1 := maxL_ge h
  have h2 := k _ (maxL_mem (List.length_pos_of_mem h))
  omega
/-! ### dicts with texts as keys -/
abbrev Kvs := List (Key × V)
def Nk (kvs : Kvs) : Prop := (kvs.map (·.1)).Nodup
theorem Nk.nil : Nk [] := List.nodup_nil
theorem Nk.put {kvs : Kvs} (h : Nk kvs) (k : Key) (v : V) : Nk (putK kvs k v) := by
  cases e : valV kvs k with
  | none => exact nd_putK v h e
  | some o =>
    unfold putK
    rw [valV_any, e]
    unfold Nk at h ⊢
    rw [if_pos (by rfl), List.map_map]
    have : ((fun x : Key × V => x.1) ∘ fun kv => if kv.1 = k then (kv.1, v) else kv) = fun x => x.1 := by
      funext x
      show (if x.1 = k then (x.1, v) else x).1 = x.1
      split <;> rfl
    rw [this]
    exact h
theorem Nk.merge : ∀ {m kvs : Kvs}, Nk kvs → Nk (mergeK kvs m)
  | [], kvs, h => h
  | p :: r, kvs, h => Nk.merge (m := r) (kvs := putK kvs p.1 p.2) (h.put _ _)
theorem valV_merge : ∀ {m kvs : Kvs} {k : Key}, Nk m → valV (mergeK kvs m) k = (valV m k).or (valV kvs k)
  | [], kvs, k, _ => by rw [valV_nil]; rfl
  | p :: r, kvs, k, h => by
    have hn : Nk r := (List.nodup_cons.mp h).2
    have hp : p.1 ∉ r.map (·.1) := (List.nodup_cons.mp h).1
    show valV (mergeK (putK kvs p.1 p.2) r) k = _
    rw [valV_merge hn, valV_put]
    by_cases e : k = p.1
    · rw [if_pos e, valV_pos e.symm]
      have : valV r k = none := by
        cases z : valV r k with
        | none => rfl
        | some o =>
          exfalso
          apply hp
          rw [← e]
          unfold valV at z
          cases f : r.find? (fun kv => decide (kv.1 = k)) with
          | none => rw [f] at z; cases z
          | some q =>
            have h1 := List.find?_some f
            have h2 := List.mem_of_find?_eq_some f
            exact List.mem_map.mpr ⟨q, h2, of_decide_eq_true h1⟩
      rw [this]
      rfl
    · rw [if_neg e, valV_neg (fun z => e z.symm)]
abbrev Stamp := Str → Option Int
/-- a dict from texts to ints, told by a function -/
structure StampK (kvs : Kvs) (f : Stamp) (b : Nat) : Prop where
  nk : Nk kvs
  val : ∀ x : Str, valV kvs (Sum.inr x) = (f x).map V.int
  len : kvs.length ≤ b
def StampD (H : Hp) (d : Addr) (f : Stamp) (b : Nat) : Prop := ∃ kvs, H d = some (.dK kvs) ∧ StampK kvs f b
def noS : Stamp := fun _ => none
def putS (f : Stamp) (n : Str) (i : Int) : Stamp := fun x => if x = n then some i else f x
def orS (f g : Stamp) : Stamp := fun x => (f x).or (g x)
theorem StampK.nil : StampK [] noS 0 := ⟨Nk.nil, fun _ => by rw [valV_nil]; rfl, Nat.le_refl _⟩
theorem StampK.put {kvs : Kvs} {f : Stamp} {b : Nat} (h : StampK kvs f b) (n : Str) (i : Int) : StampK (putK kvs (Sum.inr n) (.int i)) (putS f n i) (b + 1) := by
  refine ⟨h.nk.put _ _, fun x => ?_, Nat.le_trans (length_putK _ _ _) (Nat.succ_le_succ h.len)⟩
  rw [valV_put]
  unfold putS
  by_cases e : x = n
  · rw [if_pos (by rw [e]), if_pos e]; rfl
  · rw [if_neg (fun z => e (Sum.inr.inj z)), if_neg e, h.val]
theorem StampK.merge {k1 k2 : Kvs} {f g : Stamp} {b c : Nat} (h : StampK k1 f b) (h2 : StampK k2 g c) : StampK (mergeK k1 k2) (orS g f) (b + c) := by
  refine ⟨h.nk.merge, fun x => ?_, Nat.le_trans (length_mergeK _ _) (Nat.add_le_add h.len h2.len)⟩
  rw [valV_merge h2.nk, h.val, h2.val]
  unfold orS
  cases g x <;> rfl
theorem StampK.le {kvs : Kvs} {f : Stamp} {b c : Nat} (h : StampK kvs f b) (l : b ≤ c) : StampK kvs f c := ⟨h.nk, h.val, Nat.le_trans h.len l⟩
theorem StampK.isSome {kvs : Kvs} {f : Stamp} {b : Nat} (h : StampK kvs f b) (x : Str) : (valV kvs (Sum.inr x)).isSome = (f x).isSome := by rw [h.val, Option.isSome_map]
theorem StampD.ex {T : Tb} {H H' : Hp} {d : Addr} {f : Stamp} {b : Nat} (h : StampD H d f b) (e : Ex T H H') : StampD H' d f b := let ⟨k, a, c⟩ := h; ⟨k, e.at a, c⟩
/-- the stamps of all nodes -/
abbrev Stamps := Str → Stamp
def Net.stamp0 (N : Net) : Stamps := fun n x => if x ∈ N.under n ∧ N.isSrc x = true then some 0 else none
def joinS (l : List Stamp) : Stamp := l.foldl (fun f g => orS g f) noS
def setS (S : Stamps) (n : Str) (f : Stamp) : Stamps := fun m => if m = n then f else S m
def Net.stampStep (N : Net) (t : Int) (S : Stamps) (r : Int × Str) : Stamps :=
  if r.1 ≤ t then setS S r.2 (if N.isSrc r.2 = true then putS noS r.2 r.1 else joinS ((N.inputs r.2).map S)) else S
def Net.stamps (N : Net) (pl : Plan) (t : Int) : Stamps := pl.foldl (N.stampStep t) N.stamp0
def Net.ages (N : Net) (pl : Plan) (q : Query) : Stamp := fun x => if N.isSrc x = true then (N.stamps pl q.1 q.2.1 x).map fun i => q.1 - i else none
/-- a bound on a stamp's dict -/
def Net.bd (N : Net) (n : Str) : Nat := 6 * (N.under n).length
def wordErr (f : Frm) (es : List Int) : Int := if f.word = "sum" then (List.zipWith (fun (t : Int × Str) e => absI t.1 * e) f.ins es).sum else maxL es
def Net.nodeErr (N : Net) (ages : Stamp) (n : Str) (es : List Int) : Int :=
  match look N.src n with
  | some s => s.1 * (ages n).getD 0
  | none => match look N.vws n with
    | some f => wordErr f.1 es
    | none => 0
def Net.err (N : Net) (ages : Stamp) (n : Str) : Int := treeF N (N.nodeErr ages) 5 n
def Net.worst (N : Net) (pl : Plan) (q : Query) : Int := N.err (N.ages pl q) q.2.1
def Net.enough (N : Net) (pl : Plan) (qs : List Query) : Bool := qs.all fun q => decide (N.worst pl q ≤ q.2.2)
variable {N : Net}
theorem err_eq (ok : NetOk N) (ages : Stamp) (n : Str) : N.err ages n = N.nodeErr ages n ((N.inputs n).map (N.err ages)) := treeF_eq ok _ n
theorem err_src (ok : NetOk N) (ages : Stamp) {n : Str} {s : Int × Int} (e : look N.src n = some s) : N.err ages n = s.1 * (ages n).getD 0 := by
  rw [err_eq ok]
  unfold Net.nodeErr
  rw [e]
theorem err_view (ok : NetOk N) (ages : Stamp) {n : Str} {f : Frm × Int} (e0 : look N.src n = none) (e : look N.vws n = some f) : N.err ages n = wordErr f.1 (f.1.names.map (N.err ages)) := by
  rw [err_eq ok]
  unfold Net.nodeErr
  rw [e0, e]
  unfold Net.inputs
  rw [e]
theorem wordErr_sum {f : Frm} (h : f.word = "sum") (g : Str → Int) : wordErr f (f.names.map g) = (f.ins.map fun t => absI t.1 * g t.2).sum := by
  unfold wordErr Frm.names
  rw [if_pos h, List.map_map]
  congr 1
  induction f.ins with
  | nil => rfl
  | cons a r ih => rw [List.map_cons, List.zipWith_cons_cons, ih]; rfl
theorem wordErr_max {f : Frm} (h : f.word ≠ "sum") (es : List Int) : wordErr f es = maxL es := by
  unfold wordErr
  rw [if_neg h]
/-- a name is a source or a view, not both -/
theorem src_or_view (ok : NetOk N) {n : Str} (h : n ∈ N.names) : (∃ s, look N.src n = some s ∧ look N.vws n = none ∧ N.isSrc n = true) ∨ ∃ f, look N.src n = none ∧ look N.vws n = some f ∧ N.isSrc n = false := by
  have nd := ok.nodup
  unfold Net.names at nd h
  rw [List.nodup_append] at nd
  rcases List.mem_append.mp h with h | h
  · obtain ⟨s, hs⟩ := Option.isSome_iff_exists.mp (look_isSome.mpr h)
    refine .inl ⟨s, hs, look_none.mpr fun z => nd.2.2 n h n z rfl, ?_⟩
    unfold Net.isSrc
    rw [hs]
    rfl
  · obtain ⟨s, hs⟩ := Option.isSome_iff_exists.mp (look_isSome.mpr h)
    have hn : look N.src n = none := look_none.mpr fun z => nd.2.2 n z n h rfl
    refine .inr ⟨s, hn, hs, ?_⟩
    unfold Net.isSrc
    rw [hn]
    rfl
theorem inputs_src (ok : NetOk N) {n : Str} (h : n ∈ N.names) (hs : N.isSrc n = true) : N.inputs n = [] := by
  rcases src_or_view ok h with ⟨s, _, e, _⟩ | ⟨f, _, _, e⟩
  · unfold Net.inputs
    rw [e]
  · rw [e] at hs; cases hs
theorem joinS_some : ∀ (l : List Stamp) (f0 : Stamp) (x : Str), (l.foldl (fun f g => orS g f) f0 x).isSome = ((f0 x).isSome || l.any fun g => (g x).isSome)
  | [], f0, x => by simp
  | g :: r, f0, x => by
    rw [List.foldl_cons, joinS_some r, List.any_cons]
    unfold orS
    cases g x <;> cases f0 x <;> simp
/-- every source under a node has a stamp there -/
def Full (N : Net) (S : Stamps) : Prop := ∀ n ∈ N.names, ∀ x ∈ N.under n, N.isSrc x = true → (S n x).isSome = true
theorem full0 : Full N N.stamp0 := fun n _ x hx hs => by
  unfold Net.stamp0
  rw [if_pos ⟨hx, hs⟩]
  rfl
theorem full_step (ok : NetOk N) {S : Stamps} (h : Full N S) (t : Int) (r : Int × Str) (hr : r.2 ∈ N.names) : Full N (N.stampStep t S r) := by
  intro n hn x hx hs
  unfold Net.stampStep
  by_cases c : r.1 ≤ t
  · rw [if_pos c]
    unfold setS
    by_cases e : n = r.2
    · rw [if_pos e]
      subst e
      by_cases z : N.isSrc r.2 = true
      · rw [if_pos z]
        rw [under_eq ok, inputs_src ok hr z] at hx
        simp at hx
        unfold putS
        rw [if_pos hx]
        rfl
      · rw [if_neg z]
        unfold joinS
        rw [joinS_some, Bool.or_eq_true]
        right
        rw [under_eq ok] at hx
        rcases List.mem_cons.mp hx with rfl | hx
        · exact absurd hs z
        · obtain ⟨t', ht, hx⟩ := List.mem_flatMap.mp hx
          rw [List.any_map]
          exact List.any_eq_true.mpr ⟨t', ht, h t' (ok.order ht).2.2.1 x hx hs⟩
    · rw [if_neg e]
      exact h n hn x hx hs
  · rw [if_neg c]
    exact h n hn x hx hs
theorem full_all (ok : NetOk N) (t : Int) : ∀ (pl : Plan) {S : Stamps}, Full N S → (∀ r ∈ pl, r.2 ∈ N.names) → Full N (pl.foldl (N.stampStep t) S)
  | [], S, h, _ => h
  | r :: pl, S, h, k => full_all ok t pl (full_step ok h t r (k r List.mem_cons_self)) fun q hq => k q (List.mem_cons_of_mem _ hq)
theorem ages_full (ok : NetOk N) {pl : Plan} {q : Query} (h : ∀ r ∈ pl, r.2 ∈ N.names) (hq : q.2.1 ∈ N.names) {x : Str} (hx : x ∈ N.under q.2.1) (hs : N.isSrc x = true) : (N.ages pl q x).isSome = true := by
  unfold Net.ages
  rw [if_pos hs, Option.isSome_map]
  exact full_all ok q.1 pl full0 h _ hq x hx hs
theorem bd_inputs (ok : NetOk N) (n : Str) : ((N.inputs n).map N.bd).sum + 6 = N.bd n := by
  unfold Net.bd
  rw [under_eq ok, List.length_cons, List.length_flatMap]
  induction N.inputs n with
  | nil => rfl
  | cons a r ih =>
    rw [List.map_cons, List.map_cons, List.sum_cons, List.sum_cons]
    omega
theorem bd_le (ok : NetOk N) (n : Str) : N.bd n ≤ 18750 := by
  have := under_len ok n
  unfold Net.bd
  omega
theorem bd_ge (ok : NetOk N) (n : Str) : 6 ≤ N.bd n := by
  have := bd_inputs ok n
  omega
end
end Rf
end

set_option Elab.async false
set_option linter.all false
set_option maxRecDepth 100000
set_option maxHeartbeats 4000000
set_option pp.maxSteps 1500
section
open PySem PySem.Spec PyProof.Rows L2 Rf
local macro_rules | `(tactic| walk_at "up") => `(tactic| first | assumption | exact Ex.refl _ | exact upd_same | (apply upd_at; (focus assumption); walk_at "up") | (apply upd_at'; (focus assumption); walk_at "up") | (apply Ex.mutL; (focus (walk_at "up")); (focus (walk_at "up")); walk_at "up") | (apply Ex.mutD; (focus (walk_at "up")); (focus (walk_at "up")); walk_at "up") | (apply Ex.free'; (focus assumption); walk_at "up") | (apply Ex.atT; (focus assumption); walk_at "up") | (apply Ex.atL; (focus assumption); walk_at "up") | (apply Ex.atD; (focus assumption); walk_at "up") | (apply Ex.atI; (focus assumption); walk_at "up") | (apply Ex.atF; (focus assumption); walk_at "up") | (apply Ex.then'; (focus assumption); walk_at "up") | (apply NetAt.ex; (focus assumption); walk_at "up") | (apply PartsAt.ex; (focus assumption); walk_at "up") | (apply PlanAt.ex; (focus assumption); walk_at "up") | (apply QrsAt.ex; (focus assumption); walk_at "up") | (apply SrcD.ex; (focus assumption); walk_at "up") | (apply VwD.ex; (focus assumption); walk_at "up") | (apply SeqIs.ex; (focus assumption); walk_at "up") | (apply NetAt.ex'; (focus assumption); walk_at "up") | (apply PartsAt.ex'; (focus assumption); walk_at "up") | (apply PlanAt.ex'; (focus assumption); walk_at "up") | (apply QrsAt.ex'; (focus assumption); walk_at "up") | (apply SrcD.ex'; (focus assumption); walk_at "up") | (apply VwD.ex'; (focus assumption); walk_at "up") | (apply SeqIs.ex'; (focus assumption); walk_at "up") | (apply Ex.atT'; (focus assumption); walk_at "up") | (apply Ex.atL'; (focus assumption); walk_at "up") | (apply Ex.atD'; (focus assumption); walk_at "up") | (apply Ex.atI'; (focus assumption); walk_at "up") | (with_reducible apply FrmAt.ex'; (focus assumption); walk_at "up") | (with_reducible apply VwAt.ex'; (focus assumption); walk_at "up") | (with_reducible apply RowAt.ex'; (focus assumption); walk_at "up") | (with_reducible apply SrcAt.ex'; (focus assumption); walk_at "up") | (with_reducible apply QryAt.ex'; (focus assumption); walk_at "up") | (with_reducible apply Rows.ex'; (focus assumption); walk_at "up") | (with_reducible apply StAt.exE; (focus assumption); walk_at "up") | (with_reducible apply sqU; (focus assumption); assumption) | (with_reducible apply sqE; (focus assumption); walk_at "up") | (with_reducible apply sqM; (focus assumption); (focus (walk_at "ne")); walk_at "up") | (with_reducible apply Ex.tabs'; (focus assumption); walk_at "up") | (with_reducible apply Ex.thenM; (focus assumption); (focus (walk_at "up")); walk_at "up") | (with_reducible apply Ex.thenMM; (focus assumption); walk_at "up") | (with_reducible apply atML; (focus assumption); (focus (walk_at "ne")); walk_at "up") | (with_reducible apply atMD; (focus assumption); (focus (walk_at "ne")); walk_at "up") | (with_reducible apply atMT; (focus assumption); (focus (walk_at "ne")); walk_at "up"))
local macro_rules | `(tactic| walk_at "ne") => `(tactic| first | assumption | (apply ne_st; (focus assumption); (walk_at "up")))
local macro_rules | `(tactic| walk_at "sv") => `(tactic| first | rfl | assumption | exact Ex.refl _ | exact ClsV.ty _ | (apply TyX.base; first | exact TyOf.int _ | exact TyOf.str _ | exact TyOf.bl _ | (apply TyOf.tup; walk_at "up") | (apply TyOf.lst; walk_at "up") | (apply TyOf.dK; walk_at "up")) | exact kit_ty (by decide +kernel) | (apply Rd.of; walk_at "up") | (apply DGet_some; (focus (walk_at "up")); assumption) | (apply DGet_f; (focus (walk_at "up")); assumption) | (apply DGet_s; walk_at "up") | (apply DPut_s; (focus (walk_at "up")); omega) | (apply sz5; simp only [List.length_map, List.length_append, List.length_cons, List.length_nil]; omega) | (apply sz4; simp only [List.length_map, List.length_append, List.length_cons, List.length_nil]; omega) | (apply SqL.of; walk_at "up") | (apply SqT.of; walk_at "up") | (apply Or.inl; apply SqL.of; walk_at "up") | (apply Or.inr; apply SqT.of; walk_at "up") | (apply Exists.intro; first | (apply SqL.of; walk_at "up") | (apply SqT.of; walk_at "up")) | exact flatStrs _ | (apply dp_nil; walk_at "up") | (apply dp_strs; walk_at "up") | (apply dp_ints; walk_at "up") | (apply dp_row; walk_at "up") | (apply dp_rowL; walk_at "up") | (apply dp_rows; (focus (walk_at "up")); walk_at "up") | exact shaped_nil | exact shaped_ints | (apply shaped_strs; assumption) | (apply shaped_rows; assumption) | (apply shaped_row; assumption) | (with_reducible apply RowAt.mk; walk_at "up") | (apply tyL; walk_at "up") | (apply tyD; walk_at "up") | (with_reducible apply cmul_r; constructor <;> omega) | (with_reducible apply cmul_l; constructor <;> omega) | (with_reducible apply cdiv_i; constructor <;> omega) | walk_at "up" | (with_reducible apply ne_st; (focus assumption); walk_at "up") | omega | (dsimp only; omega) | decide | (simp only [List.length_map, List.length_append, List.length_cons, List.length_nil]; omega))
local macro_rules | `(tactic| walk_at "cn") => `(tactic| first | assumption | omega | (dsimp only; omega) | (simp only [List.length_map, List.length_append, List.length_cons, List.length_nil, List.length_reverse]; omega) | decide)
local macro_rules | `(tactic| walk_at "rd") => `(tactic| first
  | (with_reducible show LcGo _ _ _ _ _ _ _ _)
  | (with_reducible show DcGo _ _ _ _ _ _ _ _ _)
  | (with_reducible show ForGo _ _ _ _ _ _)
  | (refine allocI (fun p hp => ?_); generalize hh : upd _ _ _ = H2; have e := exNew (T := ‹Tb›) hh hp; have h := updAt hh; clear hh; walk_at "rd")
  | (apply And.intro; (focus (walk_at "sv")); walk_at "rd")
  | (apply Exists.intro; walk_at "rd")
  | (refine iteY ?_ ?_; (focus (walk_at "cn")); walk_at "rd")
  | (refine iteN ?_ ?_; (focus (walk_at "cn")); walk_at "rd")
  | (refine iteY' ?_ ?_; (focus (walk_at "cn")); walk_at "rd")
  | (refine iteN' ?_ ?_; (focus (walk_at "cn")); walk_at "rd")
  | (refine iteBt ?_ ?_; (focus (first | assumption | decide +kernel)); walk_at "rd")
  | (refine iteBf ?_ ?_; (focus (first | assumption | decide +kernel)); walk_at "rd")
  | (intro _; walk_at "rd") | skip)
namespace Rf
section
variable {P : Program} {w : World} {K : PySem.W.Frag} {mg : Str → Option Value} {base : Heap} {C : Addr} (TT : Tb)
theorem ne_of_at {H : Hp} {a b : Addr} {o : HO} (h : H a = some o) (h0 : H b = none) : a ≠ b := fun z => by rw [z, h0] at h; cases h
theorem joinS_snoc (l : List Stamp) (g : Stamp) : joinS (l ++ [g]) = orS g (joinS l) := by
  unfold joinS
  rw [List.foldl_append]
  rfl
def sp_joined : Sp := fun vs H Q _ => ∃ l ps fs, vs = [.ref l] ∧ H l = some (.lst (ps.map V.ref)) ∧ Paired (fun p (fb : Stamp × Nat) => StampD H p fb.1 fb.2) ps fs ∧ (fs.map (·.2)).sum ≤ 20000 ∧ ps.length ≤ 10 ∧
  ∀ d H', Ex TT H H' → H d = none → StampD H' d (joinS (fs.map (·.1))) ((fs.map (·.2)).sum) → Q (.ref d) H'
theorem cal_joined (T : Tx K mg C) (D : DefB K mg "joined" s_joined ["parts"]) : C8.Cal P w K mg base 1 "joined" (sp_joined TT) [] := by
  refine cal_of D sc_joined (fun vs H Q E h => by obtain ⟨_, _, _, rfl, _⟩ := h; rfl) (fun fa cdv A outer s H vs Q E hr h => ?_)
  obtain ⟨l, ps, fs, rfl, hl, hx, hb, hlen, k⟩ := h
  have nd := sc_joined.nd
  have lx := Paired.length hx
  refine ⟨_, (pss_cons (ps_set (i := 1) nd rfl (Or.inl rfl) pe_dnewK)
      (pss_cons (forX (ps_for PassesOwn.never rfl (pi_list (pv 0)) (pg_name (i := 2) nd rfl (Or.inl rfl) (by first | exact Or.inr rfl | exact Or.inl rfl))
      (pss_one (ps_expr (pe_bm PySem.F.plainAttrs_dict PySem.F.slot_dict_update PySem.F.type_dict_update mt_update (pv 1) (pa_cons (pv 2) pa_nil))))))
      (pss_one (ps_ret (pv 1))))), ?_⟩
  walk_at "rd"
  rename_i d hd H1 e1 hd1
  have hl1 : H1 l = some (.lst (ps.map V.ref)) := by walk_at "up"
  have hL : (ps.map V.ref).length = fs.length := by rw [List.length_map]; exact lx
  refine for_goB (walk_list (K := K) (a := l) (xs := ps.map V.ref)) (fun i σ Hc => ∃ u, σ = [some (.ref l), some (.ref d), u] ∧ Ex TT H Hc ∧ StampD Hc d (joinS ((fs.take i).map (·.1))) (((fs.take i).map (·.2)).sum)) ⟨_, rfl, e1, _, hd1, StampK.nil⟩ (fun i σ Hc hi ⟨u, _, ec, _⟩ => SqL.of (ec.at hl)) ?_ ?_
  · intro i y σ Hc Hc' hi ⟨u, es, ec, kvs, hkv, sk⟩ yy
    subst es
    obtain ⟨rfl, hy⟩ := yy
    rw [hL] at hi
    obtain ⟨fb, hfb⟩ : ∃ b, fs[i]? = some b := ⟨fs[i], List.getElem?_eq_getElem _⟩
    obtain ⟨p, hp, k2, hk2, sk2⟩ := Paired.at hx hfb
    rw [List.getElem?_map, hp] at hy
    cases hy
    have hne : d ≠ p := Ne.symm (ne_of_at hk2 hd)
    have hk2' : Hc' p = some (.dK k2) := by walk_at "up"
    have htk : ((fs.take (i + 1)).map (·.2)).sum = ((fs.take i).map (·.2)).sum + fb.2 := by
      rw [List.take_add_one, hfb]
      simp
    have hle : ((fs.take (i + 1)).map (·.2)).sum ≤ (fs.map (·.2)).sum := by
      conv => rhs; rw [← List.take_append_drop (i + 1) fs, List.map_append, List.sum_append]
      omega
    have g1 := sk.len
    have g2 := sk2.len
    walk_at "rd"
    refine ⟨sz5 (by omega), ?_⟩
    refine ⟨⟨_, rfl, by walk_at "up", mergeK kvs k2, upd_same, ?_⟩⟩
    have := sk.merge sk2
    rw [htk, List.take_add_one, hfb]
    show StampK _ (joinS (List.map _ (fs.take i ++ [fb]))) _
    rw [List.map_append, List.map_singleton, joinS_snoc]
    exact this
  · rintro σ Hc ⟨u, rfl, ec, st⟩
    rw [hL, List.take_length] at st
    walk_at "rd"
    exact k _ _ ec hd st
section
variable {T : Tb} {J : It} {G : Hp → Prop} {Y : Nat → Hp → V → Hp → Prop} {g : TG} {tt : L2.TT} {tk te : TE} {vs : List Nat} {σ : L2.St} {H : Hp}
theorem dc_walkS {Q : VK} (l : List Str) (wk : Walk J l.length G Y) (hY : ∀ i H x H', Y i H x H' → H' = H ∧ (l.map V.str)[i]? = some x) (hn : l.length ≤ 40000) (hG : ∀ H', Ex T H H' → G H') (t : Str → Bool) (g0 : Str → Int)
    (step : ∀ x Hc (K1 : V → V → Hp → Prop) (K0 : Hp → Prop), x ∈ l → Ex T H Hc → (t x = true → ∀ H4, Ex T Hc H4 → K1 (.str x) (.int (g0 x)) H4) → (t x = false → ∀ H3, Ex T Hc H3 → K0 H3) →
      g (.str x) (wipe σ vs) Hc fun σ2 H2 => wipe σ2 vs = wipe σ vs ∧ tt σ2 H2 fun b H3 => if b = true then tk σ2 H3 fun y H4 => te σ2 H4 fun z H5 => K1 y z H5 else K0 H3)
    (done : ∀ D H2, H D = none → Ex T H H2 → StampD H2 D (fun x => if x ∈ l.filter t then some (g0 x) else none) l.length → Q (.ref D) H2) :
    DcGo J g tt tk te vs σ H Q := by
  refine dc_pure (T := T) wk hn hG (fun i ys _ => StampK ys (fun x => if x ∈ (l.take i).filter t then some (g0 x) else none) i) (fun _ _ _ _ _ h => h) ?_ ?_ ?_
  · rw [List.take_zero]
    exact ⟨Nk.nil, fun x => by rw [valV_nil]; simp, Nat.le_refl _⟩
  · intro i ys x Hc Hc' K1 K0 hi ec sk yy k1 k0
    obtain ⟨rfl, hx⟩ := hY i Hc x Hc' yy
    obtain ⟨b, hb⟩ : ∃ b, l[i]? = some b := ⟨l[i], List.getElem?_eq_getElem _⟩
    rw [List.getElem?_map, hb] at hx
    cases hx
    refine step b Hc' K1 K0 (List.mem_of_getElem? hb) ec (fun ht H4 e4 => k1 (Sum.inr b) _ H4 e4 ?_) (fun ht H3 e3 => k0 H3 e3 ?_)
    · have := sk.put b (g0 b)
      have ef : putS (fun x => if x ∈ (l.take i).filter t then some (g0 x) else none) b (g0 b) = fun x => if x ∈ (l.take (i + 1)).filter t then some (g0 x) else none := by
        funext x
        unfold putS
        rw [take_succ_filter t hb, if_pos ht]
        by_cases e : x = b
        · subst e
          rw [if_pos rfl, if_pos (by simp)]
        · rw [if_neg e]
          have : x ∈ (l.take i).filter t ++ [b] ↔ x ∈ (l.take i).filter t := by simp [e]
          show (if x ∈ (l.take i).filter t then some (g0 x) else none) = _
          by_cases z : x ∈ (l.take i).filter t
          · rw [if_pos z, if_pos (this.mpr z)]
          · rw [if_neg z, if_neg (fun q => z (this.mp q))]
      rw [ef] at this
      exact this
    · rw [take_succ_filter t hb, ht, if_neg Bool.false_ne_true, List.append_nil]
      exact sk.le (Nat.le_succ _)
  · intro D ys H2 hD e hd hl sk
    rw [List.take_length] at sk
    exact done D H2 hD e ⟨ys, hd, sk⟩
theorem dc_lstS {K : PySem.W.Frag} {p : Addr} {Q : VK} (l : List Str) (hp : H p = some (.lst (l.map V.str))) (hn : l.length ≤ 40000) (t : Str → Bool) (g0 : Str → Int)
    (step : ∀ x Hc (K1 : V → V → Hp → Prop) (K0 : Hp → Prop), x ∈ l → Ex T H Hc → (t x = true → ∀ H4, Ex T Hc H4 → K1 (.str x) (.int (g0 x)) H4) → (t x = false → ∀ H3, Ex T Hc H3 → K0 H3) →
      g (.str x) (wipe σ vs) Hc fun σ2 H2 => wipe σ2 vs = wipe σ vs ∧ tt σ2 H2 fun b H3 => if b = true then tk σ2 H3 fun y H4 => te σ2 H4 fun z H5 => K1 y z H5 else K0 H3)
    (done : ∀ D H2, H D = none → Ex T H H2 → StampD H2 D (fun x => if x ∈ l.filter t then some (g0 x) else none) l.length → Q (.ref D) H2) :
    DcGo (Itl K p) g tt tk te vs σ H Q :=
  dc_walkS l (by rw [show l.length = (l.map V.str).length by rw [List.length_map]]; exact walk_list (K := K) (a := p)) (fun _ _ _ _ y => y) hn (fun H' e => SqL.of (e.at hp)) t g0 step done
end
/-- the dict of all nodes' stamps, as far as ns -/
def FoundAt (N : Net) (H : Hp) (d : Addr) (S : Stamps) (ns : List Str) (b : Nat) : Prop := ∃ kvs, H d = some (.dK kvs) ∧ kvs.length ≤ b ∧ ∀ n ∈ ns, ∃ p, valV kvs (Sum.inr n) = some (.ref p) ∧ p ≠ d ∧ StampD H p (S n) (N.bd n)
theorem FoundAt.ex {T : Tb} {N : Net} {H H' : Hp} {d : Addr} {S : Stamps} {ns : List Str} {b : Nat} (h : FoundAt N H d S ns b) (e : Ex T H H') : FoundAt N H' d S ns b := by
  obtain ⟨kvs, a, c, f⟩ := h
  refine ⟨kvs, e.at a, c, fun n hn => ?_⟩
  obtain ⟨p, h1, h2, h3⟩ := f n hn
  exact ⟨p, h1, h2, h3.ex e⟩
theorem FoundAt.put {N : Net} {H : Hp} {d p : Addr} {S : Stamps} {ns : List Str} {b : Nat} {kvs : Kvs} {n : Str} {f : Stamp} (hd : H d = some (.dK kvs)) (hb : kvs.length ≤ b) (h : ∀ n ∈ ns, ∃ p, valV kvs (Sum.inr n) = some (.ref p) ∧ p ≠ d ∧ StampD H p (S n) (N.bd n)) (hp : p ≠ d) (hs : StampD H p f (N.bd n)) :
    FoundAt N (upd H d (.dK (putK kvs (Sum.inr n) (.ref p)))) d (setS S n f) (n :: ns) (b + 1) := by
  have st : ∀ {q : Addr} {g : Stamp} {c : Nat}, q ≠ d → StampD H q g c → StampD (upd H d (.dK (putK kvs (Sum.inr n) (.ref p)))) q g c := fun hq ⟨k, a, c⟩ => ⟨k, by rw [upd_ne hq]; exact a, c⟩
  refine ⟨_, upd_same, Nat.le_trans (length_putK _ _ _) (Nat.succ_le_succ hb), fun m hm => ?_⟩
  unfold setS
  rw [valV_put]
  by_cases e : m = n
  · subst e
    rw [if_pos rfl, if_pos rfl]
    exact ⟨p, rfl, hp, st hp hs⟩
  · rw [if_neg (fun z => e (Sum.inr.inj z)), if_neg e]
    rcases List.mem_cons.mp hm with hm | hm
    · exact absurd hm e
    · obtain ⟨q, h1, h2, h3⟩ := h m hm
      exact ⟨q, h1, h2, st h2 h3⟩
theorem FoundAt.eq {N : Net} {H : Hp} {d : Addr} {S S' : Stamps} {ns ns' : List Str} {b : Nat} (h : FoundAt N H d S ns b) (k : ∀ n ∈ ns', n ∈ ns ∧ S' n = S n) : FoundAt N H d S' ns' b := by
  obtain ⟨kvs, a, c, f⟩ := h
  refine ⟨kvs, a, c, fun n hn => ?_⟩
  obtain ⟨h1, h2⟩ := k n hn
  rw [h2]
  exact f n h1
/-- the first stamps of a node -/
theorem stamp0_of {N : Net} (ok : NetOk N) {n : Str} : (fun x => if x ∈ (N.below n ++ [n]).filter (fun x => N.isSrc x) then some (0 : Int) else none) = N.stamp0 n := by
  funext x
  unfold Net.stamp0
  have : x ∈ (N.below n ++ [n]).filter (fun x => N.isSrc x) ↔ x ∈ N.under n ∧ N.isSrc x = true := by
    rw [List.mem_filter, mem_below_self ok]
  by_cases h : x ∈ N.under n ∧ N.isSrc x = true
  · rw [if_pos h, if_pos (this.mpr h)]
  · rw [if_neg h, if_neg (fun z => h (this.mp z))]
theorem refs_of {H : Hp} {kvs : Kvs} {S : Str → Stamp} {B : Str → Nat} : ∀ {ys : List V} {l : List Str}, (∀ x ∈ l, ∀ q, valV kvs (Sum.inr x) = some (V.ref q) → StampD H q (S x) (B x)) → Paired (fun y x => ∃ q, y = V.ref q ∧ valV kvs (Sum.inr x) = some (V.ref q)) ys l →
    ∃ ps : List Addr, ys = ps.map V.ref ∧ ps.length = l.length ∧ Paired (fun p (fb : Stamp × Nat) => StampD H p fb.1 fb.2) ps (l.map fun x => (S x, B x))
  | ys, [], _, q => by
    cases q
    exact ⟨[], rfl, rfl, .nil⟩
  | ys, x :: l, h, q => by
    cases q with
    | cons a r =>
      obtain ⟨q, rfl, hq⟩ := a
      obtain ⟨ps, rfl, e, hp⟩ := refs_of (fun x hx => h x (List.mem_cons_of_mem _ hx)) r
      exact ⟨q :: ps, rfl, by rw [List.length_cons, List.length_cons, e], .cons (h x List.mem_cons_self q hq) hp⟩
def sp_stamps_of : Sp := fun vs H Q _ => ∃ v N pv pl t n0, vs = [v, pv, .int t] ∧ NetAt C H v N ∧ NetOk N ∧ PlanAt H pv pl ∧ pl.length ≤ 1000 ∧ (∀ r ∈ pl, r.2 ∈ N.names) ∧ n0 ∈ N.names ∧
  ∀ d kvs p ks H', Ex TT H H' → H d = none → H' d = some (.dK kvs) → valV kvs (Sum.inr n0) = some (.ref p) → H' p = some (.dK ks) → StampK ks (N.stamps pl t n0) (N.bd n0) → Q (.ref d) H'
theorem cal_stamps_of (T : Tx K mg C) (D : DefB K mg "stamps_of" s_stamps_of ["network", "plan", "tick"]) (c_joined : C8.Cal P w K mg base 1 "joined" (sp_joined TT) []) (c_m_names : C8.Met P w K mg base 1 C "names" (sp_m_names (C := C) TT) []) (c_m_inputs : C8.Met P w K mg base 2 C "inputs" (sp_m_inputs (C := C) TT) [])
    (c_m_sources : C8.Met P w K mg base 1 C "sources" (sp_m_sources (C := C) TT) []) (c_m_below : C8.Met P w K mg base 3 C "below" (sp_m_below (C := C) TT) []) : C8.Cal P w K mg base 4 "stamps_of" (sp_stamps_of (C := C) TT) [] := by
  refine cal_of D sc_stamps_of (fun vs H Q E h => by obtain ⟨_, _, _, _, _, _, rfl, _⟩ := h; rfl) (fun fa cdv A outer s H vs Q E hr h => ?_)
  obtain ⟨v, N, pv, pl, t, n0, rfl, hN, ok, ⟨p, xs, rfl, hp, hx⟩, lp, hpn, hn0, k⟩ := h
  obtain ⟨pn, dx, fs, d1, d2, rfl, hpN, h1, h2, _, _, m1, m2, m3, m4, m5, m6⟩ := hN.un
  have nd := sc_stamps_of.nd
  have cl := T.cl
  have hu := hu_of hr
  have lx := Paired.length hx
  have ln := ok.len
  refine ⟨_, (pss_cons (ps_set (i := 3) nd rfl (Or.inr rfl) pe_dnewK)
      (pss_cons (forX (ps_for PassesOwn.never rfl (pi_list (C8.pe_mt0 c_m_names hr (by first | decide | omega) (pv 0))) (pg_name (i := 4) nd rfl (Or.inl rfl) (by first | exact Or.inr rfl | exact Or.inl rfl))
      (pss_one (ps_dput hu (pv 3) (pv 4) (dcX (pe_dc (g := (gName 6)) rfl nd (pi_list (pe_op op_cat (C8.pe_mt c_m_below hr (by first | decide | omega) (pv 0) (pa_cons (pv 4) pa_nil)) (pe_lst (pa_cons (pv 4) pa_nil)))) (blkOk_by (own := [("one", 6)]) (N := N_stamps_of) (sc := C8.fnScope s_stamps_of) (by decide +kernel)) (fun _ _ _ _ _ => (pg_name (i := 6) nd rfl (Or.inl rfl) (by first | exact Or.inr rfl | exact Or.inl rfl))) (fun _ _ _ _ _ => pts_one (pt_cmp (pc_din hu (pv 6) (C8.pe_mt0 c_m_sources hr (by first | decide | omega) (pv 0))))) (fun _ _ _ _ _ => (pv 6)) (fun _ _ _ _ _ => pe_int))) rfl))))
      (pss_cons (forX (ps_for PassesOwn.never rfl (pi_seq (pv 1)) (pg_tup rfl (pgs_cons (pg_name (i := 5) nd rfl (Or.inl rfl) (by first | exact Or.inr rfl | exact Or.inl rfl)) (pgs_cons (pg_name (i := 4) nd rfl (Or.inl rfl) (by first | exact Or.inr rfl | exact Or.inl rfl)) pgs_nil)))
      (pss_one (ps_if (PW.pt (pw_and (pt_cmpR op_le (pv 5) (pv 2) (nomark _)) (pw_and1 (pt_cmp (pc_din hu (pv 4) (C8.pe_mt0 c_m_sources hr (by first | decide | omega) (pv 0))))))) (pss_one (ps_dput hu (pv 3) (pv 4) (pe_disp (pps_cons (pv 4) (pv 5) pps_nil) (by rfl) (by rfl) (fun z => by cases z) (by decide)) rfl)) (pss_one (ps_if (pt_cmpR op_le (pv 5) (pv 2) (nomark _)) (pss_one (ps_dput hu (pv 3) (pv 4) (C8.pe_c c_joined hr (by first | decide | omega) (by rfl) (pa_cons (lcX (pe_lc (g := (gName 6)) rfl nd (pi_list (C8.pe_mt c_m_inputs hr (by first | decide | omega) (pv 0) (pa_cons (pv 4) pa_nil))) (blkOk_by (own := [("one", 6)]) (N := N_stamps_of) (sc := C8.fnScope s_stamps_of) (by decide +kernel)) (fun _ _ _ _ _ => (pg_name (i := 6) nd rfl (Or.inl rfl) (by first | exact Or.inr rfl | exact Or.inl rfl))) (fun _ _ _ _ _ => pts_nil) (fun _ _ _ _ _ => (pe_dget hu (pv 3) (pv 6) (fun _ _ => rfl))))) pa_nil)) rfl)) pss_nil))))))
      (pss_one (ps_ret (pv 3)))))), ?_⟩
  walk_at "rd"
  rename_i d hd H1 e1 hd1 la H2 e2 hla hla2
  have hd2 : H2 d = some (.dK []) := by walk_at "up"
  have hls : ∀ n ∈ N.names, (N.below n).length ≤ 5 := fun n hn => Nat.le_trans (List.length_filter_le _ _) ln
  refine for_goB (walk_list (K := K) (a := la) (xs := N.names.map V.str)) (fun i σ Hc => ∃ u1, σ = [some (.ref pn), some (.ref p), some (.int t), some (.ref d), u1, none, none] ∧ Ex TT H Hc ∧ Hc la = some (.lst (N.names.map V.str)) ∧ FoundAt N Hc d N.stamp0 (N.names.take i) i) ⟨_, rfl, by walk_at "up", hla2, [], hd2, Nat.le_refl _, fun n hn => by simp at hn⟩ (fun i σ Hc hi ⟨u, _, ec, hl, _⟩ => SqL.of hl) ?_ ?_
  · intro i y σ Hc Hc' hi ⟨u1, es, ec, hlc, kvs, hkv, lkv, hf⟩ yy
    subst es
    obtain ⟨rfl, hy⟩ := yy
    rw [List.length_map] at hi
    obtain ⟨n, hn⟩ : ∃ b, N.names[i]? = some b := ⟨N.names[i], List.getElem?_eq_getElem _⟩
    have hnm := List.mem_of_getElem? hn
    rw [List.getElem?_map, hn] at hy
    cases hy
    have lb := hls n hnm
    have lpos : kvs.length ≤ 5 := by omega
    have lB : ((N.below n).map V.str).length + [V.str n].length ≤ sizeLine := sz5 (by simp; omega)
    walk_at "rd"
    rename_i b1 H3 e3 hb1 hb1' b2 hb2 H4 e4 hb2' b3 hb3 H5 e5 hb3'
    have eB : (N.below n).map V.str ++ [V.str n] = (N.below n ++ [n]).map V.str := by rw [List.map_append, List.map_singleton]
    rw [eB] at hb3'
    refine dc_lstS (T := TT) (N.below n ++ [n]) hb3' (by rw [List.length_append, List.length_singleton]; omega) (fun x => N.isSrc x) (fun _ => 0) ?_ ?_
    · intro x Hx K1 K0 hxm ex k1 k0
      walk_at "rd"
      rename_i dS kS HS eS hdS hdS' qS
      have hss : (valV kS (Sum.inr x)).isSome = N.isSrc x := qS.isSome
      cases hc : N.isSrc x with
      | true =>
        rw [hc] at hss
        walk_at "rd"
        exact k1 hc _ (by walk_at "up")
      | false =>
        rw [hc] at hss
        walk_at "rd"
        exact k0 hc _ (by walk_at "up")
    · intro D6 H6 hD6 e6 hd6
      rw [stamp0_of ok] at hd6
      have hd6' : H6 d = some (.dK kvs) := by walk_at "up"
      have hd0 : Hc' D6 = none := by walk_at "up"
      have hld : d ≠ la := fun z => by
        rw [z, hlc] at hkv
        cases hkv
      have hdD : D6 ≠ d := Ne.symm (ne_of_at hkv hd0)
      have e06 : Ex TT Hc' H6 := by walk_at "up"
      have fin := FoundAt.put (n := n) hd6' lkv (fun m hm => by
        obtain ⟨q, g1, g2, g3⟩ := hf m hm
        exact ⟨q, g1, g2, g3.ex e06⟩) hdD (f := N.stamp0 n) (by
        obtain ⟨kk, a1, a2⟩ := hd6
        exact ⟨kk, a1, a2.le (by have := bd_ge ok n; rw [List.length_append, List.length_singleton]; omega)⟩)
      walk_at "rd"
      refine ⟨⟨_, rfl, by walk_at "up", by walk_at "up", fin.eq (fun m hm => ?_)⟩⟩
      refine ⟨?_, ?_⟩
      · rw [List.take_add_one, hn] at hm
        simp at hm
        rcases hm with hm | hm
        · exact List.mem_cons_of_mem _ hm
        · rw [hm]
          exact List.mem_cons_self
      · unfold setS
        split
        · rename_i z
          rw [z]
        · rfl
  · rintro σ Hc ⟨u1, rfl, ec, hlc, hF⟩
    rw [List.length_map, List.take_length] at hF
    have hpc : SeqIs Hc p xs := by walk_at "up"
    walk_at "rd"
    rename_i J o no ho wk
    have hoH : H p = some o := by
      rcases hp with hp | hp
      · rw [ec.at hp] at ho
        cases ho
        exact hp
      · rw [ec.at hp] at ho
        cases ho
        exact hp
    refine for_goB wk (fun i σ Hx => ∃ u1 u2, σ = [some (.ref pn), some (.ref p), some (.int t), some (.ref d), u1, u2, none] ∧ Ex TT H Hx ∧ FoundAt N Hx d ((pl.take i).foldl (N.stampStep t) N.stamp0) N.names (10 + i)) ⟨u1, none, rfl, ec, ?_⟩ (fun i σ Hx hi ⟨_, _, _, ex, _⟩ => ?_) ?_ ?_
    · obtain ⟨kv, a1, a2, a3⟩ := hF
      exact ⟨kv, a1, by omega, a3⟩
    · exact ex.at hoH no
    · intro i y σ Hc Hc' hi ⟨u1, u2, es, ec, kvs, hkv, lkv, hf⟩ yy
      subst es
      obtain ⟨rfl, hy⟩ := yy
      rw [lx] at hi
      obtain ⟨r, hrr⟩ : ∃ b, pl[i]? = some b := ⟨pl[i], List.getElem?_eq_getElem _⟩
      have hrm := hpn r (List.mem_of_getElem? hrr)
      obtain ⟨y', hy', tr, rfl, htr⟩ := Paired.at hx hrr
      rw [hy'] at hy
      cases hy
      have lkv' : kvs.length ≤ 2000 := by omega
      have step : (pl.take (i + 1)).foldl (N.stampStep t) N.stamp0 = N.stampStep t ((pl.take i).foldl (N.stampStep t) N.stamp0) r := by
        rw [List.take_add_one, hrr, List.foldl_append]
        rfl
      have ndn : (N.names).Nodup := ok.nodup
      have done1 : ∀ {H1 : Hp} {q : Addr} {f : Stamp}, Ex TT Hc' H1 → q ≠ d → StampD H1 q f (N.bd r.2) → N.stampStep t ((pl.take i).foldl (N.stampStep t) N.stamp0) r = setS ((pl.take i).foldl (N.stampStep t) N.stamp0) r.2 f →
          FoundAt N (upd H1 d (.dK (putK kvs (Sum.inr r.2) (.ref q)))) d ((pl.take (i + 1)).foldl (N.stampStep t) N.stamp0) N.names (10 + (i + 1)) := by
        intro H1 q f e1 hq hs es
        rw [step, es]
        have := FoundAt.put (n := r.2) (ns := N.names) (e1.at hkv) lkv (fun m hm => by
          obtain ⟨q', g1, g2, g3⟩ := hf m hm
          exact ⟨q', g1, g2, g3.ex e1⟩) hq hs
        exact this.eq fun m hm => ⟨List.mem_cons_of_mem _ hm, rfl⟩
      by_cases c1 : r.1 ≤ t
      · cases c2 : N.isSrc r.2 with
        | true =>
          have es : N.stampStep t ((pl.take i).foldl (N.stampStep t) N.stamp0) r = setS ((pl.take i).foldl (N.stampStep t) N.stamp0) r.2 (putS noS r.2 r.1) := by
            unfold Net.stampStep
            rw [if_pos c1, if_pos c2]
          walk_at "rd"
          rename_i dS kS HS eS hdS hdS' qS
          have hss : (valV kS (Sum.inr r.2)).isSome = true := by rw [qS.isSome]; exact c2
          walk_at "rd"
          rename_i D6 hD6 H6 e6 hd6
          refine ⟨(rfl : _ = [((Sum.inr r.2 : Key), V.int r.1)].map fun kv => (kV kv.1, kv.2)), by simp, ?_⟩
          walk_at "rd"
          have hpd : D6 ≠ d := Ne.symm (ne_of_at (eS.at hkv) hD6)
          have fin := done1 (H1 := upd H6 D6 (.dK (mergeK [] [((Sum.inr r.2 : Key), V.int r.1)]))) (q := D6) (f := putS noS r.2 r.1) (by walk_at "up") hpd ⟨_, upd_same, (StampK.nil.put r.2 r.1).le (by have := bd_ge ok r.2; omega)⟩ es
          exact ⟨⟨_, _, rfl, by walk_at "up", fin⟩⟩
        | false =>
          have es : N.stampStep t ((pl.take i).foldl (N.stampStep t) N.stamp0) r = setS ((pl.take i).foldl (N.stampStep t) N.stamp0) r.2 (joinS ((N.inputs r.2).map ((pl.take i).foldl (N.stampStep t) N.stamp0))) := by
            unfold Net.stampStep
            rw [if_pos c1, if_neg (by rw [c2]; exact Bool.false_ne_true)]
          walk_at "rd"
          rename_i dS kS HS eS hdS hdS' qS
          have hss : (valV kS (Sum.inr r.2)).isSome = false := by rw [qS.isSome]; exact c2
          walk_at "rd"
          rename_i li H6 e6 hli hli'
          have hd6 : H6 d = some (.dK kvs) := by walk_at "up"
          refine lc_lstP (T := TT) (N.inputs r.2) (fun v x => v = V.str x) hli' (Paired.of_fn _) (by have := inputs_len ok r.2; omega) (fun _ => true) (fun _ y x => ∃ q, y = V.ref q ∧ valV kvs (Sum.inr x) = some (.ref q)) (fun _ _ _ _ _ h => h) ?_ ?_
          · intro x v Hx K1 K0 hxm hv ex k1 k0
            subst hv
            obtain ⟨q, g1, g2, g3⟩ := hf x (ok.order hxm).2.2.1
            have hdx : Hx d = some (.dK kvs) := by walk_at "up"
            walk_at "rd"
            exact k1 rfl _ _ (Ex.refl _) ⟨q, rfl, g1⟩
          · intro D7 ys H7 hD7 e7 hd7 qq
            rw [filt_true] at qq
            have e07 : Ex TT Hc' H7 := by walk_at "up"
            obtain ⟨ps, eys, lps, hps⟩ := refs_of (H := H7) (kvs := kvs) (S := (pl.take i).foldl (N.stampStep t) N.stamp0) (B := N.bd) (fun x hx q hq => by
              obtain ⟨q', g1, g2, g3⟩ := hf x (ok.order hx).2.2.1
              rw [g1] at hq
              cases hq
              exact g3.ex e07) qq
            rw [eys] at hd7
            have hm1 : ((N.inputs r.2).map fun x => (((pl.take i).foldl (N.stampStep t) N.stamp0) x, N.bd x)).map (·.1) = (N.inputs r.2).map ((pl.take i).foldl (N.stampStep t) N.stamp0) := by rw [List.map_map]; rfl
            have hm2 : ((N.inputs r.2).map fun x => (((pl.take i).foldl (N.stampStep t) N.stamp0) x, N.bd x)).map (·.2) = (N.inputs r.2).map N.bd := by rw [List.map_map]; rfl
            generalize ((N.inputs r.2).map fun x => (((pl.take i).foldl (N.stampStep t) N.stamp0) x, N.bd x)) = fs at hps hm1 hm2
            have b1 := bd_inputs ok r.2
            have b2 := bd_le ok r.2
            have hsum : (fs.map (·.2)).sum ≤ 20000 := by rw [hm2]; omega
            have hpl : ps.length ≤ 10 := by rw [lps]; have := inputs_len ok r.2; omega
            walk_at "rd"
            rename_i D8 H8 e8 hD8 hd8
            rw [hm1, hm2] at hd8
            have hd8n : D8 ≠ d := Ne.symm (ne_of_at (e07.at hkv) hD8)
            have fin := done1 (H1 := H8) (q := D8) (by walk_at "up") hd8n (by obtain ⟨kk, a1, a2⟩ := hd8; exact ⟨kk, a1, a2.le (by omega)⟩) es
            exact ⟨⟨_, _, rfl, by walk_at "up", fin⟩⟩
      · have es : N.stampStep t ((pl.take i).foldl (N.stampStep t) N.stamp0) r = (pl.take i).foldl (N.stampStep t) N.stamp0 := by
          unfold Net.stampStep
          rw [if_neg c1]
        walk_at "rd"
        refine ⟨⟨_, _, rfl, by walk_at "up", ?_⟩⟩
        rw [step, es]
        exact ⟨kvs, hkv, by omega, hf⟩
    · rintro σ Hx ⟨u1, u2, rfl, ex, hF⟩
      walk_at "rd"
      rw [lx, List.take_length] at hF
      obtain ⟨kv, a1, a2, a3⟩ := hF
      obtain ⟨p0, b1, b2, ks, b3, b4⟩ := a3 n0 hn0
      exact k _ kv p0 ks _ ex hd a1 b1 b3 b4
end
end Rf
end

set_option Elab.async false
set_option linter.all false
set_option maxRecDepth 100000
set_option maxHeartbeats 4000000
set_option pp.maxSteps 1500
section
open PySem PySem.Spec PyProof.Rows L2 Rf
local macro_rules | `(tactic| walk_at "up") => `(tactic| first | assumption | exact Ex.refl _ | exact upd_same | (apply upd_at; (focus assumption); walk_at "up") | (apply upd_at'; (focus assumption); walk_at "up") | (apply Ex.mutL; (focus (walk_at "up")); (focus (walk_at "up")); walk_at "up") | (apply Ex.mutD; (focus (walk_at "up")); (focus (walk_at "up")); walk_at "up") | (apply Ex.free'; (focus assumption); walk_at "up") | (apply Ex.atT; (focus assumption); walk_at "up") | (apply Ex.atL; (focus assumption); walk_at "up") | (apply Ex.atD; (focus assumption); walk_at "up") | (apply Ex.atI; (focus assumption); walk_at "up") | (apply Ex.atF; (focus assumption); walk_at "up") | (apply Ex.then'; (focus assumption); walk_at "up") | (apply NetAt.ex; (focus assumption); walk_at "up") | (apply PartsAt.ex; (focus assumption); walk_at "up") | (apply PlanAt.ex; (focus assumption); walk_at "up") | (apply QrsAt.ex; (focus assumption); walk_at "up") | (apply SrcD.ex; (focus assumption); walk_at "up") | (apply VwD.ex; (focus assumption); walk_at "up") | (apply SeqIs.ex; (focus assumption); walk_at "up") | (apply NetAt.ex'; (focus assumption); walk_at "up") | (apply PartsAt.ex'; (focus assumption); walk_at "up") | (apply PlanAt.ex'; (focus assumption); walk_at "up") | (apply QrsAt.ex'; (focus assumption); walk_at "up") | (apply SrcD.ex'; (focus assumption); walk_at "up") | (apply VwD.ex'; (focus assumption); walk_at "up") | (apply SeqIs.ex'; (focus assumption); walk_at "up") | (apply Ex.atT'; (focus assumption); walk_at "up") | (apply Ex.atL'; (focus assumption); walk_at "up") | (apply Ex.atD'; (focus assumption); walk_at "up") | (apply Ex.atI'; (focus assumption); walk_at "up") | (with_reducible apply FrmAt.ex'; (focus assumption); walk_at "up") | (with_reducible apply VwAt.ex'; (focus assumption); walk_at "up") | (with_reducible apply RowAt.ex'; (focus assumption); walk_at "up") | (with_reducible apply SrcAt.ex'; (focus assumption); walk_at "up") | (with_reducible apply QryAt.ex'; (focus assumption); walk_at "up") | (with_reducible apply Rows.ex'; (focus assumption); walk_at "up") | (with_reducible apply StAt.exE; (focus assumption); walk_at "up") | (with_reducible apply sqU; (focus assumption); assumption) | (with_reducible apply sqE; (focus assumption); walk_at "up") | (with_reducible apply sqM; (focus assumption); (focus (walk_at "ne")); walk_at "up") | (with_reducible apply Ex.tabs'; (focus assumption); walk_at "up") | (with_reducible apply Ex.thenM; (focus assumption); (focus (walk_at "up")); walk_at "up") | (with_reducible apply Ex.thenMM; (focus assumption); walk_at "up") | (with_reducible apply atML; (focus assumption); (focus (walk_at "ne")); walk_at "up") | (with_reducible apply atMD; (focus assumption); (focus (walk_at "ne")); walk_at "up") | (with_reducible apply atMT; (focus assumption); (focus (walk_at "ne")); walk_at "up"))
local macro_rules | `(tactic| walk_at "ne") => `(tactic| first | assumption | (apply ne_st; (focus assumption); (walk_at "up")))
local macro_rules | `(tactic| walk_at "sv") => `(tactic| first | rfl | assumption | exact Ex.refl _ | exact ClsV.ty _ | (apply TyX.base; first | exact TyOf.int _ | exact TyOf.str _ | exact TyOf.bl _ | (apply TyOf.tup; walk_at "up") | (apply TyOf.lst; walk_at "up") | (apply TyOf.dK; walk_at "up")) | exact kit_ty (by decide +kernel) | (apply Rd.of; walk_at "up") | (apply DGet_some; (focus (walk_at "up")); assumption) | (apply DGet_f; (focus (walk_at "up")); assumption) | (apply DGet_s; walk_at "up") | (apply DPut_s; (focus (walk_at "up")); omega) | (apply sz5; simp only [List.length_map, List.length_append, List.length_cons, List.length_nil]; omega) | (apply sz4; simp only [List.length_map, List.length_append, List.length_cons, List.length_nil]; omega) | (apply SqL.of; walk_at "up") | (apply SqT.of; walk_at "up") | (apply Or.inl; apply SqL.of; walk_at "up") | (apply Or.inr; apply SqT.of; walk_at "up") | (apply Exists.intro; first | (apply SqL.of; walk_at "up") | (apply SqT.of; walk_at "up")) | exact flatStrs _ | (apply dp_nil; walk_at "up") | (apply dp_strs; walk_at "up") | (apply dp_ints; walk_at "up") | (apply dp_row; walk_at "up") | (apply dp_rowL; walk_at "up") | (apply dp_rows; (focus (walk_at "up")); walk_at "up") | exact shaped_nil | exact shaped_ints | (apply shaped_strs; assumption) | (apply shaped_rows; assumption) | (apply shaped_row; assumption) | (with_reducible apply RowAt.mk; walk_at "up") | (apply tyL; walk_at "up") | (apply tyD; walk_at "up") | (with_reducible apply cmul_r; constructor <;> omega) | (with_reducible apply cmul_l; constructor <;> omega) | (with_reducible apply cdiv_i; constructor <;> omega) | walk_at "up" | (with_reducible apply ne_st; (focus assumption); walk_at "up") | omega | (dsimp only; omega) | decide | (simp only [List.length_map, List.length_append, List.length_cons, List.length_nil]; omega))
local macro_rules | `(tactic| walk_at "cn") => `(tactic| first | assumption | omega | (dsimp only; omega) | (simp only [List.length_map, List.length_append, List.length_cons, List.length_nil, List.length_reverse]; omega) | decide)
local macro_rules | `(tactic| walk_at "rd") => `(tactic| first
  | (with_reducible show LcGo _ _ _ _ _ _ _ _)
  | (with_reducible show DcGo _ _ _ _ _ _ _ _ _)
  | (with_reducible show ForGo _ _ _ _ _ _)
  | (refine allocI (fun p hp => ?_); generalize hh : upd _ _ _ = H2; have e := exNew (T := ‹Tb›) hh hp; have h := updAt hh; clear hh; walk_at "rd")
  | (apply And.intro; (focus (walk_at "sv")); walk_at "rd")
  | (apply Exists.intro; walk_at "rd")
  | (refine iteY ?_ ?_; (focus (walk_at "cn")); walk_at "rd")
  | (refine iteN ?_ ?_; (focus (walk_at "cn")); walk_at "rd")
  | (refine iteY' ?_ ?_; (focus (walk_at "cn")); walk_at "rd")
  | (refine iteN' ?_ ?_; (focus (walk_at "cn")); walk_at "rd")
  | (refine iteBt ?_ ?_; (focus (first | assumption | decide +kernel)); walk_at "rd")
  | (refine iteBf ?_ ?_; (focus (first | assumption | decide +kernel)); walk_at "rd")
  | (intro _; walk_at "rd") | skip)
namespace Rf
section
variable {P : Program} {w : World} {K : PySem.W.Frag} {mg : Str → Option Value} {base : Heap} {C : Addr} (TT : Tb)
theorem DGet_D {H : Hp} {a : Addr} {kvs : Kvs} {n : Str} (e : H a = some (.dK kvs)) (h : (valV kvs (Sum.inr n)).isSome = true) : DGet H a (.str n) (some ((valV kvs (Sum.inr n)).getD .non)) := by
  obtain ⟨v, hv⟩ := Option.isSome_iff_exists.mp h
  rw [hv]
  exact DGet_some e hv
theorem under_sub {N : Net} (ok : NetOk N) : ∀ m n, n ∈ N.under m → ∀ x ∈ N.under n, x ∈ N.under m := by
  refine tree_ind ok fun m ih n hn x hx => ?_
  rw [under_eq ok] at hn
  rcases List.mem_cons.mp hn with rfl | hn
  · exact hx
  · obtain ⟨t, ht, hn⟩ := List.mem_flatMap.mp hn
    rw [under_eq ok]
    exact List.mem_cons_of_mem _ (List.mem_flatMap.mpr ⟨t, ht, ih t ht n hn x hx⟩)
def sp_ages_of : Sp := fun vs H Q _ => ∃ v N pv pl qv q, vs = [v, pv, qv] ∧ NetAt C H v N ∧ NetOk N ∧ PlanAt H pv pl ∧ pl.length ≤ 1000 ∧ (∀ r ∈ pl, r.2 ∈ N.names) ∧ QryAt H qv q ∧ q.2.1 ∈ N.names ∧
  ∀ d kvs H', Ex TT H H' → H d = none → H' d = some (.dK kvs) → StampK kvs (N.ages pl q) 5 → Q (.ref d) H'
theorem keys_at {β : Type} {R : V → β → Prop} {kvs : List (Key × V)} {l : List (Str × β)} (q : DctAt R kvs l) {i : Nat} {x : V} (h : ∃ k v, kvs[i]? = some (k, v) ∧ x = kV k) : ((l.map (·.1)).map V.str)[i]? = some x := by
  obtain ⟨k, v, h1, rfl⟩ := h
  rw [← q.keys, List.getElem?_map, h1]
  rfl
theorem cal_ages_of (T : Tx K mg C) (D : DefB K mg "ages_of" s_ages_of ["network", "plan", "query"]) (c_stamps_of : C8.Cal P w K mg base 4 "stamps_of" (sp_stamps_of (C := C) TT) []) (c_m_sources : C8.Met P w K mg base 1 C "sources" (sp_m_sources (C := C) TT) []) : C8.Cal P w K mg base 5 "ages_of" (sp_ages_of (C := C) TT) [] := by
  refine cal_of D sc_ages_of (fun vs H Q E h => by obtain ⟨_, _, _, _, _, _, rfl, _⟩ := h; rfl) (fun fa cdv A outer s H vs Q E hr h => ?_)
  obtain ⟨v, N, vp, pl, vq, q, rfl, hN, ok, hP, lp, hpn, ⟨qa, rfl, hqa⟩, hqm, k⟩ := h
  obtain ⟨pn, dx, fs, d1, d2, rfl, hpN, h1, h2, _, _, m1, m2, m3, m4, m5, m6⟩ := hN.un
  have nd := sc_ages_of.nd
  have cl := T.cl
  have hu := hu_of hr
  refine ⟨_, (pss_cons (ps_set (i := 3) nd rfl (Or.inr rfl) (pe_dget hu (C8.pe_c c_stamps_of hr (by first | decide | omega) (by rfl) (pa_cons (pv 0) (pa_cons (pv 1) (pa_cons (pe_ix ix_tup (pv 2) pe_int (fun _ _ => rfl)) pa_nil)))) (pe_ix ix_tup (pv 2) pe_int (fun _ _ => rfl)) (fun _ _ => rfl)))
      (pss_one (ps_ret (dcX (pe_dc (g := (gName 4)) rfl nd (pi_keysF (C8.pe_mt0 c_m_sources hr (by first | decide | omega) (pv 0))) (blkOk_by (own := [("name", 4)]) (N := N_ages_of) (sc := C8.fnScope s_ages_of) (by decide +kernel)) (fun _ _ _ _ _ => (pg_name (i := 4) nd rfl (Or.inl rfl) (by first | exact Or.inr rfl | exact Or.inl rfl))) (fun _ _ _ _ _ => pts_one (pt_cmp (pc_din hu (pv 4) (pv 3)))) (fun _ _ _ _ _ => (pv 4)) (fun _ _ _ _ _ => (pe_op op_sub (pe_ix (ix_tupK (K := K)) (pv 2) pe_int (fun _ _ => rfl)) (pe_dget hu (pv 3) (pv 4) (fun _ _ => rfl))))))))), ?_⟩
  walk_at "rd"
  rename_i ds kv0 p1 ks H1 e1 hds hds1 hv1 hp1 qst da kva H2 e2 hda hda2 qS od
  refine .inl ⟨_, upd_same, ?_⟩
  have e3 : Ex TT H (upd H2 da (.frz od (.dK kva))) := Ex.mut (by walk_at "up") (e1.al _ hda) hda2
  have e4 : Ex TT H1 (upd H2 da (.frz od (.dK kva))) := Ex.mut e2 hda hda2
  have h3 : upd H2 da (.frz od (.dK kva)) da = some (.frz od (.dK kva)) := upd_same
  generalize upd H2 da (.frz od (.dK kva)) = H3 at e3 e4 h3
  have lk := qS.len
  have ls := ok.s5
  have wk := walk_keys (d := da) (o := od) (kvs := kva)
  have hl : kva.length = (N.src.map (·.1)).length := by rw [List.length_map]; exact lk
  rw [hl] at wk
  refine dc_walkS (T := TT) (N.src.map (·.1)) wk (fun i Hx x H' y => ⟨y.1, keys_at qS y.2⟩) (by rw [List.length_map]; omega) (fun H' e => e.at h3) (fun x => ((N.stamps pl q.1 q.2.1) x).isSome) (fun x => q.1 - ((N.stamps pl q.1 q.2.1) x).getD 0) ?_ ?_
  · intro x Hx K1 K0 hxm ex k1 k0
    have hss := qst.isSome x
    have hvv := qst.val x
    cases hc : (N.stamps pl q.1 q.2.1) x with
    | none =>
      rw [hc] at hss
      have hss : (valV ks (Sum.inr x)).isSome = false := hss
      have hqx : Hx qa = some (.tup [.int q.1, .str q.2.1, .int q.2.2]) := by walk_at "up"
      walk_at "rd"
      exact k0 (by rw [hc]; rfl) _ (Ex.refl _)
    | some i =>
      rw [hc] at hss hvv
      have hss : (valV ks (Sum.inr x)).isSome = true := hss
      have hvv : valV ks (Sum.inr x) = some (V.int i) := hvv
      have hqx : Hx qa = some (.tup [.int q.1, .str q.2.1, .int q.2.2]) := by walk_at "up"
      walk_at "rd"
      have := k1 (by rw [hc]; rfl) Hx (Ex.refl _)
      rw [hc] at this
      exact this
  · intro D6 H6 hD6 e6 ⟨kk, a1, a2⟩
    have ef : (fun x => if x ∈ (N.src.map (·.1)).filter (fun x => ((N.stamps pl q.1 q.2.1) x).isSome) then some (q.1 - ((N.stamps pl q.1 q.2.1) x).getD 0) else none) = N.ages pl q := by
      funext x
      unfold Net.ages
      have hmf : x ∈ (N.src.map (·.1)).filter (fun x => ((N.stamps pl q.1 q.2.1) x).isSome) ↔ N.isSrc x = true ∧ ((N.stamps pl q.1 q.2.1) x).isSome = true := by
        rw [List.mem_filter]
        exact and_congr_left' look_isSome.symm
      by_cases hm : x ∈ (N.src.map (·.1)).filter (fun x => ((N.stamps pl q.1 q.2.1) x).isSome)
      · obtain ⟨a, b⟩ := hmf.mp hm
        rw [if_pos hm, if_pos a]
        obtain ⟨i, hi⟩ := Option.isSome_iff_exists.mp b
        rw [hi]
        rfl
      · rw [if_neg hm]
        by_cases hs : N.isSrc x = true
        · rw [if_pos hs]
          cases hi : (N.stamps pl q.1 q.2.1) x with
          | none => rfl
          | some i => exact absurd (hmf.mpr ⟨hs, by rw [hi]; rfl⟩) hm
        · rw [if_neg hs]
    rw [ef] at a2
    exact k _ kk _ (by walk_at "up") (by walk_at "up") a1 (a2.le (by rw [List.length_map]; omega))
def sp_combined : Sp := fun vs H Q _ => ∃ fv f ed kvs g, vs = [fv, .ref ed] ∧ FrmAt H fv f ∧ FrmOk f ∧ H ed = some (.dK kvs) ∧ (∀ x ∈ f.names, valV kvs (Sum.inr x) = some (.int (g x))) ∧ ∀ H', Ex TT H H' → Q (.int (wordErr f (f.names.map g))) H'
theorem cal_combined (T : Tx K mg C) (D : DefB K mg "combined" s_combined ["formula", "errors"]) : C8.Cal P w K mg base 1 "combined" (sp_combined TT) [] := by
  refine cal_of D sc_combined (fun vs H Q E h => by obtain ⟨_, _, _, _, _, rfl, _⟩ := h; rfl) (fun fa cdv A outer s H vs Q E hr h => ?_)
  obtain ⟨fv, f, ed, kvs, g, rfl, ⟨p, u, rfl, hp, ⟨q, xs, rfl, hq, hx⟩⟩, ok, hed, hg, k⟩ := h
  have nd := sc_combined.nd
  have hu := hu_of hr
  have l4 := ok.hi
  have l1 := ok.lo
  refine ⟨_, (pss_cons (ps_if (pt_cmpR op_eq (pe_ix ix_tup (pv 0) pe_int (fun _ _ => rfl)) pe_str (nomark _)) (pss_one (ps_ret (pe_callB (cr_sum rfl) (by rfl) T.n_sum (by decide +kernel) (pa_cons (lcX (pe_lc (g := (gTup K 2 (gCons (gName 2) (gCons (gName 3) gNil)))) rfl nd (pi_tup (pe_ix ix_tup (pv 0) pe_int (fun _ _ => rfl))) (blkOk_by (own := [("factor", 2), ("name", 3)]) (N := N_combined) (sc := C8.fnScope s_combined) (by decide +kernel)) (fun _ _ _ _ _ => (pg_tup rfl (pgs_cons (pg_name (i := 2) nd rfl (Or.inl rfl) (by first | exact Or.inr rfl | exact Or.inl rfl)) (pgs_cons (pg_name (i := 3) nd rfl (Or.inl rfl) (by first | exact Or.inr rfl | exact Or.inl rfl)) pgs_nil)))) (fun _ _ _ _ _ => pts_nil) (fun _ _ _ _ _ => (pe_op op_mul (pe_callB call_abs (by rfl) T.n_abs (by decide +kernel) (pa_cons (pv 2) pa_nil)) (pe_dget hu (pv 1) (pv 3) (fun _ _ => rfl)))))) pa_nil)))) pss_nil)
      (pss_one (ps_ret (pe_callB (cr_max rfl) (by rfl) T.n_max (by decide +kernel) (pa_cons (lcX (pe_lc (g := (gName 3)) rfl nd (pi_tup (pe_ix ix_tup (pv 0) pe_int (fun _ _ => rfl))) (blkOk_by (own := [("name", 3)]) (N := N_combined) (sc := C8.fnScope s_combined) (by decide +kernel)) (fun _ _ _ _ _ => (pg_name (i := 3) nd rfl (Or.inl rfl) (by first | exact Or.inr rfl | exact Or.inl rfl))) (fun _ _ _ _ _ => pts_nil) (fun _ _ _ _ _ => (pe_dget hu (pv 1) (pv 3) (fun _ _ => rfl))))) pa_nil))))), ?_⟩
  walk_at "rd"
  rcases hx with ⟨hw, hx⟩ | ⟨hw, hx⟩
  · have hw' : V.str f.word = V.str "sum" := by rw [hw]
    walk_at "rd"
    refine lc_tupP (T := TT) f.ins (RowAt H) hq hx (by omega) (fun _ => true) (fun _ y t => y = V.int (absI t.1 * g t.2)) (fun _ _ _ _ _ h => h) ?_ ?_
    · intro t x Hc K1 K0 hm ⟨r, er, hr⟩ e k1 k0
      subst er
      have hgt : valV kvs (Sum.inr t.2) = some (.int (g t.2)) := hg t.2 (List.mem_map.mpr ⟨t, hm, rfl⟩)
      walk_at "rd"
      have hf5 := ok.fa t hm
      refine ⟨.inl ⟨?_, ?_⟩, ?_⟩
      · split <;> omega
      · split <;> omega
      · refine k1 rfl _ _ (Ex.refl _) ?_
        rfl
    · intro Dl ys H2 hD e hd qq
      rw [filt_true] at qq
      have eq := ints_of (f := fun t : Int × Str => absI t.1 * g t.2) qq
      rw [eq] at hd
      walk_at "rd"
      have := k H2 e
      rw [wordErr_sum hw] at this
      exact this
  · have hw' : ¬ V.str f.word = V.str "sum" := fun z => hw (V.str.inj z)
    subst hx
    walk_at "rd"
    refine lc_tupP (T := TT) f.names (fun v x => v = V.str x) hq (Paired.of_fn _) (by unfold Frm.names; rw [List.length_map]; omega) (fun _ => true) (fun _ y x => y = V.int (g x)) (fun _ _ _ _ _ h => h) ?_ ?_
    · intro x v Hc K1 K0 hm hv e k1 k0
      subst hv
      have hgt := hg x hm
      walk_at "rd"
      exact k1 rfl _ _ (Ex.refl _) rfl
    · intro Dl ys H2 hD e hd qq
      rw [filt_true] at qq
      have eq := ints_of (f := g) qq
      rw [eq] at hd
      have hpos : 0 < (f.names.map g).length := by unfold Frm.names; rw [List.length_map, List.length_map]; omega
      walk_at "rd"
      rename_i m hm hle
      rw [maxL_eq hm hle]
      have := k H2 e
      rw [wordErr_max hw] at this
      exact this
def sp_bounds_of : Sp := fun vs H Q _ => ∃ v N pv pl qv q, vs = [v, pv, qv] ∧ NetAt C H v N ∧ NetOk N ∧ PlanAt H pv pl ∧ pl.length ≤ 1000 ∧ (∀ r ∈ pl, r.2 ∈ N.names) ∧ QryAt H qv q ∧ q.2.1 ∈ N.names ∧
  ∀ d kvs H', Ex TT H H' → H d = none → H' d = some (.dK kvs) → valV kvs (Sum.inr q.2.1) = some (.int (N.worst pl q)) → Q (.ref d) H'
theorem cal_bounds_of (T : Tx K mg C) (D : DefB K mg "bounds_of" s_bounds_of ["network", "plan", "query"]) (c_ages_of : C8.Cal P w K mg base 5 "ages_of" (sp_ages_of (C := C) TT) []) (c_combined : C8.Cal P w K mg base 1 "combined" (sp_combined TT) []) (c_m_names : C8.Met P w K mg base 1 C "names" (sp_m_names (C := C) TT) []) (c_m_views : C8.Met P w K mg base 1 C "views" (sp_m_views (C := C) TT) [])
    (c_m_sources : C8.Met P w K mg base 1 C "sources" (sp_m_sources (C := C) TT) []) (c_m_below : C8.Met P w K mg base 3 C "below" (sp_m_below (C := C) TT) []) : C8.Cal P w K mg base 6 "bounds_of" (sp_bounds_of (C := C) TT) [] := by
  refine cal_of D sc_bounds_of (fun vs H Q E h => by obtain ⟨_, _, _, _, _, _, rfl, _⟩ := h; rfl) (fun fa cdv A outer s H vs Q E hr h => ?_)
  obtain ⟨v, N, vp, pl, vq, q, rfl, hN, ok, hP, lp, hpn, ⟨qa, rfl, hqa⟩, hqm, k⟩ := h
  obtain ⟨pn, dx, fs, d1, d2, rfl, hpN, h1, h2, _, _, m1, m2, m3, m4, m5, m6⟩ := hN.un
  have nd := sc_bounds_of.nd
  have cl := T.cl
  have hu := hu_of hr
  have hQ : QryAt H (.ref qa) q := ⟨qa, rfl, hqa⟩
  have lb : (N.below q.2.1).length ≤ 5 := Nat.le_trans (List.length_filter_le _ _) ok.len
  have lB : ((N.below q.2.1).map V.str).length + [V.str q.2.1].length ≤ sizeLine := sz5 (by simp; omega)
  refine ⟨_, (pss_cons (ps_par3 (i := 3) (j := 4) (l := 5) rfl nd rfl rfl rfl (by decide) (by decide) (by decide) rfl rfl rfl (pa_cons (C8.pe_c c_ages_of hr (by first | decide | omega) (by rfl) (pa_cons (pv 0) (pa_cons (pv 1) (pa_cons (pv 2) pa_nil)))) (pa_cons pe_dnewK (pa_cons (C8.pe_mt0 c_m_views hr (by first | decide | omega) (pv 0)) pa_nil))) (by rfl))
      (pss_cons (ps_set (i := 6) nd rfl (Or.inl rfl) (pe_op op_cat (C8.pe_mt c_m_below hr (by first | decide | omega) (pv 0) (pa_cons (pe_ix ix_tup (pv 2) pe_int (fun _ _ => rfl)) pa_nil)) (pe_lst (pa_cons (pe_ix ix_tup (pv 2) pe_int (fun _ _ => rfl)) pa_nil))))
      (pss_cons (forX (ps_for PassesOwn.never rfl (pi_list (C8.pe_mt0 c_m_names hr (by first | decide | omega) (pv 0))) (pg_name (i := 7) nd rfl (Or.inl rfl) (by first | exact Or.inr rfl | exact Or.inl rfl))
      (pss_one (ps_if (PW.pt (pw_and (pt_cmpR op_in_seq (pv 7) (pv 6) rfl) (pw_and1 (pt_cmp (pc_din hu (pv 7) (pv 5)))))) (pss_one (ps_dput hu (pv 4) (pv 7) (C8.pe_c c_combined hr (by first | decide | omega) (by rfl) (pa_cons (pe_ix ix_tup (pe_dget hu (pv 5) (pv 7) (fun _ _ => rfl)) pe_int (fun _ _ => rfl)) (pa_cons (pv 4) pa_nil))) rfl)) (pss_one (ps_if (pt_cmpR op_in_seq (pv 7) (pv 6) rfl) (pss_one (ps_dput hu (pv 4) (pv 7) (pe_op op_mul (pe_ix ix_tup (pe_dget hu (C8.pe_mt0 c_m_sources hr (by first | decide | omega) (pv 0)) (pv 7) (fun _ _ => rfl)) pe_int (fun _ _ => rfl)) (pe_dget hu (pv 3) (pv 7) (fun _ _ => rfl))) rfl)) pss_nil))))))
      (pss_one (ps_ret (pv 4)))))), ?_⟩
  walk_at "rd"
  rename_i dA kA H1 e1 hdA hkA qA dF hdF H2 e2 hF2 dV kW H3 e3 hdV hkV qV b1 H4 e4 hb1 hb1' b2 hb2 H5 e5 hb2' b3 hb3 H6 e6 hb3' la H7 e7 hla hla'
  have eN : (N.below q.2.1).map V.str ++ [V.str q.2.1] = (N.below q.2.1 ++ [q.2.1]).map V.str := by rw [List.map_append, List.map_singleton]
  rw [eN] at hb3'
  have hF7 : H7 dF = some (.dK []) := by walk_at "up"
  have hV7 : H7 dV = some (.dK kW) := by walk_at "up"
  have hb7 : H7 b3 = some (.lst ((N.below q.2.1 ++ [q.2.1]).map V.str)) := by walk_at "up"
  have t37 : Tu H3 H7 := (show Ex TT H3 H7 by walk_at "up").tu
  have nFV : dF ≠ dV := ne_of_at hF2 hdV
  have nFb : dF ≠ b3 := ne_of_at (show H5 dF = _ by walk_at "up") hb3
  have nFl : dF ≠ la := ne_of_at (show H6 dF = _ by walk_at "up") hla
  have l5 := ok.len
  refine for_goB (walk_list (K := K) (a := la) (xs := N.names.map V.str)) (fun i σ Hc => ∃ kF u, σ = [some (.ref pn), some vp, some (.ref qa), some (.ref dA), some (.ref dF), some (.ref dV), some (.ref b3), u] ∧ Ex TT H1 Hc ∧ Hc la = some (.lst (N.names.map V.str)) ∧ Hc dV = some (.dK kW) ∧
    Hc b3 = some (.lst ((N.below q.2.1 ++ [q.2.1]).map V.str)) ∧ Tu H3 Hc ∧ Hc dF = some (.dK kF) ∧ kF.length ≤ i ∧ ∀ x ∈ N.names.take i, x ∈ N.under q.2.1 → valV kF (Sum.inr x) = some (.int (N.err (N.ages pl q) x)))
    ⟨[], none, rfl, by walk_at "up", hla', hV7, hb7, t37, hF7, Nat.le_refl _, fun x hx => by simp at hx⟩ (fun i σ Hc hi ⟨_, _, _, _, hl, _⟩ => SqL.of hl) ?_ ?_
  · intro i y σ Hc Hc' hi ⟨kF, u, es, ec, cl1, cV, cb, ct, cF, lF, vF⟩ yy
    subst es
    obtain ⟨rfl, hy⟩ := yy
    rw [List.length_map] at hi
    obtain ⟨n, hn⟩ : ∃ b, N.names[i]? = some b := ⟨N.names[i], List.getElem?_eq_getElem _⟩
    have hnm := List.mem_of_getElem? hn
    rw [List.getElem?_map, hn] at hy
    cases hy
    have qV' : DctAt (VwAt Hc') kW N.vws := DctAt.imp qV fun _ _ z => z.tu ct
    have lF5 : kF.length ≤ 5 := by omega
    have hin : inV (V.str n) ((N.below q.2.1 ++ [q.2.1]).map V.str) = decide (n ∈ N.under q.2.1) := by
      rw [inV_strs, decide_eq_decide, mem_below_self ok]
    have step : ∀ (z : Int) {H9 : Hp}, Ex TT Hc' H9 → z = N.err (N.ages pl q) n → ∃ kF2 u2, [some (V.ref pn), some vp, some (.ref qa), some (.ref dA), some (.ref dF), some (.ref dV), some (.ref b3), some (.str n)] = [some (.ref pn), some vp, some (.ref qa), some (.ref dA), some (.ref dF), some (.ref dV), some (.ref b3), u2] ∧ Ex TT H1 (upd H9 dF (.dK (putK kF (Sum.inr n) (.int z)))) ∧ upd H9 dF (.dK (putK kF (Sum.inr n) (.int z))) la = some (.lst (N.names.map V.str)) ∧ upd H9 dF (.dK (putK kF (Sum.inr n) (.int z))) dV = some (.dK kW) ∧
      upd H9 dF (.dK (putK kF (Sum.inr n) (.int z))) b3 = some (.lst ((N.below q.2.1 ++ [q.2.1]).map V.str)) ∧ Tu H3 (upd H9 dF (.dK (putK kF (Sum.inr n) (.int z)))) ∧ upd H9 dF (.dK (putK kF (Sum.inr n) (.int z))) dF = some (.dK kF2) ∧ kF2.length ≤ i + 1 ∧ ∀ x ∈ N.names.take (i + 1), x ∈ N.under q.2.1 → valV kF2 (Sum.inr x) = some (.int (N.err (N.ages pl q) x)) := by
      intro z H9 e9 ez
      have hF9 : H9 dF = some (.dK kF) := e9.at cF
      refine ⟨putK kF (Sum.inr n) (.int z), _, rfl, by walk_at "up", by walk_at "up", by walk_at "up", by walk_at "up", ct.trans (e9.tu.trans (Tu.set hF9)), upd_same, Nat.le_trans (length_putK _ _ _) (Nat.succ_le_succ lF), fun x hx hxu => ?_⟩
      rw [valV_put]
      by_cases e : x = n
      · subst e
        rw [if_pos rfl, ez]
      · rw [if_neg (fun q => e (Sum.inr.inj q))]
        rw [List.take_add_one, hn] at hx
        simp at hx
        rcases hx with hx | hx
        · exact vF x hx hxu
        · exact absurd hx e
    by_cases hnu : n ∈ N.under q.2.1
    · have hin1 : inV (V.str n) ((N.below q.2.1 ++ [q.2.1]).map V.str) = true := by rw [hin]; exact decide_eq_true hnu
      rcases src_or_view ok hnm with ⟨s0, g1, g2, g3⟩ | ⟨f, g1, g2, g3⟩
      · have hss : (valV kW (Sum.inr n)).isSome = false := by rw [qV'.isSome, g2]; rfl
        obtain ⟨a0, ha0⟩ := Option.isSome_iff_exists.mp (ages_full ok hpn hqm hnu g3)
        have hage : valV kA (Sum.inr n) = some (.int a0) := by rw [qA.val, ha0]; rfl
        walk_at "rd"
        rename_i dS kS H8 e8 hdS hkS qS
        have hsS : (valV kS (Sum.inr n)).isSome = true := by rw [qS.isSome, g1]; rfl
        refine ⟨DGet_D hkS hsS, ?_⟩
        obtain ⟨v0, hv0, p0, rfl, hp0⟩ := qS.yes g1
        rw [hv0]
        simp only [Option.getD_some]
        walk_at "rd"
        have d20 := ok.so _ (look_mem g1)
        refine ⟨.inl ⟨by have := d20.d0; simp only at this; omega, by have := d20.d1; simp only at this; omega⟩, ?_⟩
        walk_at "rd"
        exact ⟨step _ (by walk_at "up") (by rw [err_src ok _ g1, ha0]; rfl)⟩
      · have hss : (valV kW (Sum.inr n)).isSome = true := by rw [qV'.isSome, g2]; rfl
        obtain ⟨u5, hu5, p5, u6, rfl, hp5, hf5⟩ := qV'.yes g2
        have okf : FrmOk f.1 := ok.vo.fr _ (look_mem g2)
        have hnf : N.inputs n = f.1.names := by unfold Net.inputs; rw [g2]
        have hvF : ∀ x ∈ f.1.names, valV kF (Sum.inr x) = some (.int (N.err (N.ages pl q) x)) := fun x hx => by
          rw [← hnf] at hx
          refine vF x ?_ ?_
          · have h9 := (ok.order hx).1
            unfold Net.idx at h9
            have hi9 : N.names.idxOf n = i := by
              have := ok.nodup
              obtain ⟨w1, w2⟩ := List.getElem?_eq_some_iff.mp hn
              rw [← w2]
              exact List.Nodup.idxOf_getElem this i w1
            rw [hi9] at h9
            have h8 := List.idxOf_lt_length_iff.mpr (ok.order hx).2.2.1
            have h7 : N.names[N.names.idxOf x]? = some x := by rw [List.getElem?_eq_getElem h8, List.getElem_idxOf h8]
            exact List.mem_of_getElem? (i := N.names.idxOf x) (by rw [List.getElem?_take, if_pos h9, h7])
          · exact under_sub ok _ n hnu x (by rw [under_eq ok]; exact List.mem_cons_of_mem _ (List.mem_flatMap.mpr ⟨x, hx, under_self ok x⟩))
        walk_at "rd"
        exact ⟨step _ (by walk_at "up") (by rw [err_view ok _ g1 g2])⟩
    · have hin1 : inV (V.str n) ((N.below q.2.1 ++ [q.2.1]).map V.str) = false := by rw [hin]; exact decide_eq_false hnu
      walk_at "rd"
      refine ⟨⟨kF, _, rfl, ec, cl1, cV, cb, ct, cF, by omega, fun x hx hxu => ?_⟩⟩
      rw [List.take_add_one, hn] at hx
      simp at hx
      rcases hx with hx | hx
      · exact vF x hx hxu
      · subst hx
        exact absurd hxu hnu
  · rintro σ Hc ⟨kF, u, rfl, ec, cl1, cV, cb, ct, cF, lF, vF⟩
    rw [List.length_map, List.take_length] at vF
    walk_at "rd"
    exact k _ kF _ (by walk_at "up") (by walk_at "up") cF (vF _ hqm (under_self ok _))
end
end Rf
end

set_option Elab.async false
set_option linter.all false
set_option maxRecDepth 100000
set_option maxHeartbeats 4000000
set_option pp.maxSteps 1500
section
open PySem PySem.Spec PyProof.Rows L2 Rf
local macro_rules | `(tactic| walk_at "up") => `(tactic| first | assumption | exact Ex.refl _ | exact upd_same | (apply upd_at; (focus assumption); walk_at "up") | (apply upd_at'; (focus assumption); walk_at "up") | (apply Ex.mutL; (focus (walk_at "up")); (focus (walk_at "up")); walk_at "up") | (apply Ex.mutD; (focus (walk_at "up")); (focus (walk_at "up")); walk_at "up") | (apply Ex.free'; (focus assumption); walk_at "up") | (apply Ex.atT; (focus assumption); walk_at "up") | (apply Ex.atL; (focus assumption); walk_at "up") | (apply Ex.atD; (focus assumption); walk_at "up") | (apply Ex.atI; (focus assumption); walk_at "up") | (apply Ex.atF; (focus assumption); walk_at "up") | (apply Ex.then'; (focus assumption); walk_at "up") | (apply NetAt.ex; (focus assumption); walk_at "up") | (apply PartsAt.ex; (focus assumption); walk_at "up") | (apply PlanAt.ex; (focus assumption); walk_at "up") | (apply QrsAt.ex; (focus assumption); walk_at "up") | (apply SrcD.ex; (focus assumption); walk_at "up") | (apply VwD.ex; (focus assumption); walk_at "up") | (apply SeqIs.ex; (focus assumption); walk_at "up") | (apply NetAt.ex'; (focus assumption); walk_at "up") | (apply PartsAt.ex'; (focus assumption); walk_at "up") | (apply PlanAt.ex'; (focus assumption); walk_at "up") | (apply QrsAt.ex'; (focus assumption); walk_at "up") | (apply SrcD.ex'; (focus assumption); walk_at "up") | (apply VwD.ex'; (focus assumption); walk_at "up") | (apply SeqIs.ex'; (focus assumption); walk_at "up") | (apply Ex.atT'; (focus assumption); walk_at "up") | (apply Ex.atL'; (focus assumption); walk_at "up") | (apply Ex.atD'; (focus assumption); walk_at "up") | (apply Ex.atI'; (focus assumption); walk_at "up") | (with_reducible apply FrmAt.ex'; (focus assumption); walk_at "up") | (with_reducible apply VwAt.ex'; (focus assumption); walk_at "up") | (with_reducible apply RowAt.ex'; (focus assumption); walk_at "up") | (with_reducible apply SrcAt.ex'; (focus assumption); walk_at "up") | (with_reducible apply QryAt.ex'; (focus assumption); walk_at "up") | (with_reducible apply Rows.ex'; (focus assumption); walk_at "up") | (with_reducible apply StAt.exE; (focus assumption); walk_at "up") | (with_reducible apply sqU; (focus assumption); assumption) | (with_reducible apply sqE; (focus assumption); walk_at "up") | (with_reducible apply sqM; (focus assumption); (focus (walk_at "ne")); walk_at "up") | (with_reducible apply Ex.tabs'; (focus assumption); walk_at "up") | (with_reducible apply Ex.thenM; (focus assumption); (focus (walk_at "up")); walk_at "up") | (with_reducible apply Ex.thenMM; (focus assumption); walk_at "up") | (with_reducible apply atML; (focus assumption); (focus (walk_at "ne")); walk_at "up") | (with_reducible apply atMD; (focus assumption); (focus (walk_at "ne")); walk_at "up") | (with_reducible apply atMT; (focus assumption); (focus (walk_at "ne")); walk_at "up"))
local macro_rules | `(tactic| walk_at "ne") => `(tactic| first | assumption | (apply ne_st; (focus assumption); (walk_at "up")))
local macro_rules | `(tactic| walk_at "sv") => `(tactic| first | rfl | assumption | exact Ex.refl _ | exact ClsV.ty _ | (apply TyX.base; first | exact TyOf.int _ | exact TyOf.str _ | exact TyOf.bl _ | (apply TyOf.tup; walk_at "up") | (apply TyOf.lst; walk_at "up") | (apply TyOf.dK; walk_at "up")) | exact kit_ty (by decide +kernel) | (apply Rd.of; walk_at "up") | (apply DGet_some; (focus (walk_at "up")); assumption) | (apply DGet_f; (focus (walk_at "up")); assumption) | (apply DGet_s; walk_at "up") | (apply DPut_s; (focus (walk_at "up")); omega) | (apply sz5; simp only [List.length_map, List.length_append, List.length_cons, List.length_nil]; omega) | (apply sz4; simp only [List.length_map, List.length_append, List.length_cons, List.length_nil]; omega) | (apply SqL.of; walk_at "up") | (apply SqT.of; walk_at "up") | (apply Or.inl; apply SqL.of; walk_at "up") | (apply Or.inr; apply SqT.of; walk_at "up") | (apply Exists.intro; first | (apply SqL.of; walk_at "up") | (apply SqT.of; walk_at "up")) | exact flatStrs _ | (apply dp_nil; walk_at "up") | (apply dp_strs; walk_at "up") | (apply dp_ints; walk_at "up") | (apply dp_row; walk_at "up") | (apply dp_rowL; walk_at "up") | (apply dp_rows; (focus (walk_at "up")); walk_at "up") | exact shaped_nil | exact shaped_ints | (apply shaped_strs; assumption) | (apply shaped_rows; assumption) | (apply shaped_row; assumption) | (with_reducible apply RowAt.mk; walk_at "up") | (apply tyL; walk_at "up") | (apply tyD; walk_at "up") | (with_reducible apply cmul_r; constructor <;> omega) | (with_reducible apply cmul_l; constructor <;> omega) | (with_reducible apply cdiv_i; constructor <;> omega) | walk_at "up" | (with_reducible apply ne_st; (focus assumption); walk_at "up") | omega | (dsimp only; omega) | decide | (simp only [List.length_map, List.length_append, List.length_cons, List.length_nil]; omega))
local macro_rules | `(tactic| walk_at "cn") => `(tactic| first | assumption | omega | (dsimp only; omega) | (simp only [List.length_map, List.length_append, List.length_cons, List.length_nil, List.length_reverse]; omega) | decide)
local macro_rules | `(tactic| walk_at "rd") => `(tactic| first
  | (with_reducible show LcGo _ _ _ _ _ _ _ _)
  | (with_reducible show DcGo _ _ _ _ _ _ _ _ _)
  | (with_reducible show ForGo _ _ _ _ _ _)
  | (refine allocI (fun p hp => ?_); generalize hh : upd _ _ _ = H2; have e := exNew (T := ‹Tb›) hh hp; have h := updAt hh; clear hh; walk_at "rd")
  | (apply And.intro; (focus (walk_at "sv")); walk_at "rd")
  | (apply Exists.intro; walk_at "rd")
  | (refine iteY ?_ ?_; (focus (walk_at "cn")); walk_at "rd")
  | (refine iteN ?_ ?_; (focus (walk_at "cn")); walk_at "rd")
  | (refine iteY' ?_ ?_; (focus (walk_at "cn")); walk_at "rd")
  | (refine iteN' ?_ ?_; (focus (walk_at "cn")); walk_at "rd")
  | (refine iteBt ?_ ?_; (focus (first | assumption | decide +kernel)); walk_at "rd")
  | (refine iteBf ?_ ?_; (focus (first | assumption | decide +kernel)); walk_at "rd")
  | (intro _; walk_at "rd") | skip)
namespace Rf
section
variable {P : Program} {w : World} {K : PySem.W.Frag} {mg : Str → Option Value} {base : Heap} {C : Addr} (TT : Tb)
/-- a plan and queries as the program takes them -/
structure AskOk (N : Net) (h : Int) (pl : Plan) (qs : List Query) : Prop where
  h0 : 1 ≤ h
  h1 : h ≤ 12
  po : PlanOk N h pl
  q1 : 1 ≤ qs.length
  q2 : qs.length ≤ 20
  qk : ∀ r ∈ qs, 0 ≤ r.1 ∧ r.1 ≤ h ∧ r.2.1 ∈ N.names ∧ 0 ≤ r.2.2 ∧ r.2.2 ≤ 999
def sp_worst_of : Sp := fun vs H Q _ => ∃ v N pv pl qv q, vs = [v, pv, qv] ∧ NetAt C H v N ∧ NetOk N ∧ PlanAt H pv pl ∧ pl.length ≤ 1000 ∧ (∀ r ∈ pl, r.2 ∈ N.names) ∧ QryAt H qv q ∧ q.2.1 ∈ N.names ∧ ∀ H', Ex TT H H' → Q (.int (N.worst pl q)) H'
theorem cal_worst_of (T : Tx K mg C) (D : DefB K mg "worst_of" s_worst_of ["network", "plan", "query"]) (c_bounds_of : C8.Cal P w K mg base 6 "bounds_of" (sp_bounds_of (C := C) TT) []) : C8.Cal P w K mg base 7 "worst_of" (sp_worst_of (C := C) TT) [] := by
  refine cal_of D sc_worst_of (fun vs H Q E h => by obtain ⟨_, _, _, _, _, _, rfl, _⟩ := h; rfl) (fun fa cdv A outer s H vs Q E hr h => ?_)
  obtain ⟨v, N, vp, pl, vq, q, rfl, hN, ok, hP, lp, hpn, hQ, hqm, k⟩ := h
  have nd := sc_worst_of.nd
  have hu := hu_of hr
  obtain ⟨qa, rfl, hqa⟩ := id hQ
  refine ⟨_, (pss_one (ps_ret (pe_dget hu (C8.pe_c c_bounds_of hr (by first | decide | omega) (by rfl) (pa_cons (pv 0) (pa_cons (pv 1) (pa_cons (pv 2) pa_nil)))) (pe_ix ix_tup (pv 2) pe_int (fun _ _ => rfl)) (fun _ _ => rfl)))), ?_⟩
  walk_at "rd"
  exact k _ (by walk_at "up")
def costI (N : Net) (pl : Plan) : Int := (pl.map fun r => (N.price r.2).getD 0).sum
def sp_cost_of : Sp := fun vs H Q _ => ∃ v N p xs pl, vs = [v, .ref p] ∧ NetAt C H v N ∧ NetOk N ∧ H p = some (.lst xs) ∧ Rows H xs pl ∧ pl.length ≤ 1000 ∧ (∀ r ∈ pl, r.2 ∈ N.names) ∧ ∀ H', Ex TT H H' → Q (.int (costI N pl)) H'
theorem price_some {N : Net} (ok : NetOk N) {n : Str} (h : n ∈ N.names) : ∃ c, N.price n = some c := by
  unfold Net.price
  rcases src_or_view ok h with ⟨s, g1, g2, _⟩ | ⟨f, g1, g2, _⟩
  · rw [g1]; exact ⟨_, rfl⟩
  · rw [g1, g2]; exact ⟨_, rfl⟩
theorem cal_cost_of (T : Tx K mg C) (D : DefB K mg "cost_of" s_cost_of ["network", "refreshes"]) (c_m_price : C8.Met P w K mg base 1 C "price" (sp_m_price (C := C)) []) : C8.Cal P w K mg base 2 "cost_of" (sp_cost_of (C := C) TT) [] := by
  refine cal_of D sc_cost_of (fun vs H Q E h => by obtain ⟨_, _, _, _, _, rfl, _⟩ := h; rfl) (fun fa cdv A outer s H vs Q E hr h => ?_)
  obtain ⟨v, N, p, xs, pl, rfl, hN, ok, hp, hx, lp, hpn, k⟩ := h
  obtain ⟨pn, dx, fs, d1, d2, rfl, hpN, h1, h2, _, _, m1, m2, m3, m4, m5, m6⟩ := hN.un
  have nd := sc_cost_of.nd
  have cl := T.cl
  refine ⟨_, (pss_one (ps_ret (pe_callB (cr_sum rfl) (by rfl) T.n_sum (by decide +kernel) (pa_cons (lcX (pe_lc (g := (gTup K 2 (gCons (gName 2) (gCons (gName 3) gNil)))) rfl nd (pi_list (pv 1)) (blkOk_by (own := [("tick", 2), ("name", 3)]) (N := N_cost_of) (sc := C8.fnScope s_cost_of) (by decide +kernel)) (fun _ _ _ _ _ => (pg_tup rfl (pgs_cons (pg_name (i := 2) nd rfl (Or.inl rfl) (by first | exact Or.inr rfl | exact Or.inl rfl)) (pgs_cons (pg_name (i := 3) nd rfl (Or.inl rfl) (by first | exact Or.inr rfl | exact Or.inl rfl)) pgs_nil)))) (fun _ _ _ _ _ => pts_nil) (fun _ _ _ _ _ => (C8.pe_mt c_m_price hr (by first | decide | omega) (pv 0) (pa_cons (pv 3) pa_nil))))) pa_nil)))), ?_⟩
  walk_at "rd"
  refine lc_lstP (T := TT) pl (RowAt H) hp hx (by omega) (fun _ => true) (fun _ y t => y = V.int ((N.price t.2).getD 0)) (fun _ _ _ _ _ h => h) ?_ ?_
  · intro t x Hc K1 K0 hm ⟨r, er, hr⟩ e k1 k0
    subst er
    obtain ⟨c, hc⟩ := price_some ok (hpn t hm)
    walk_at "rd"
    exact k1 rfl _ _ (by walk_at "up") (by rw [hc]; rfl)
  · intro Dl ys H2 hD e hd qq
    rw [filt_true] at qq
    have eq := ints_of (f := fun t : Int × Str => (N.price t.2).getD 0) qq
    rw [eq] at hd
    walk_at "rd"
    exact k _ (by walk_at "up")
def sp_cost : Sp := fun vs H Q _ => ∃ v N h p xs pl, vs = [v, .int h, .ref p] ∧ NetAt C H v N ∧ NetOk N ∧ 1 ≤ h ∧ h ≤ 12 ∧ H p = some (.lst xs) ∧ Rows H xs pl ∧ PlanOk N h pl ∧ ∀ H', Ex TT H H' → Q (.int (costI N pl)) H'
theorem cal_cost (T : Tx K mg C) (D : DefB K mg "cost" s_cost ["network", "horizon", "plan"]) (c_cost_of : C8.Cal P w K mg base 2 "cost_of" (sp_cost_of (C := C) TT) []) (c_check_horizon : C8.Cal P w K mg base 2 "check_horizon" (sp_check_horizon (C := C)) []) (c_check_plan : C8.Cal P w K mg base 3 "check_plan" (sp_check_plan (C := C) TT) []) : C8.Cal P w K mg base 4 "cost" (sp_cost (C := C) TT) [] := by
  refine cal_of D sc_cost (fun vs H Q E h => by obtain ⟨_, _, _, _, _, _, rfl, _⟩ := h; rfl) (fun fa cdv A outer s H vs Q E hr h => ?_)
  obtain ⟨v, N, h, p, xs, pl, rfl, hN, ok, h1, h2, hp, hx, po, k⟩ := h
  have nd := sc_cost.nd
  have hP : PlanAt H (.ref p) pl := ⟨p, xs, rfl, .inl hp, hx⟩
  have lp : pl.length ≤ 1000 := Nat.le_trans po.len (by decide)
  have hpn : ∀ r ∈ pl, r.2 ∈ N.names := fun r hr => (po.el r hr).2.2
  refine ⟨_, (pss_cons (ps_expr (C8.pe_c c_check_horizon hr (by first | decide | omega) (by rfl) (pa_cons (pv 0) (pa_cons (pv 1) pa_nil))))
      (pss_cons (ps_expr (C8.pe_c c_check_plan hr (by first | decide | omega) (by rfl) (pa_cons (pv 0) (pa_cons (pv 1) (pa_cons (pv 2) pa_nil)))))
      (pss_one (ps_ret (C8.pe_c c_cost_of hr (by first | decide | omega) (by rfl) (pa_cons (pv 0) (pa_cons (pv 2) pa_nil))))))), ?_⟩
  walk_at "rd"
  exact k _ (by walk_at "up")
def sp_is_enough : Sp := fun vs H Q _ => ∃ v N pv pl qv qs, vs = [v, pv, qv] ∧ NetAt C H v N ∧ NetOk N ∧ PlanAt H pv pl ∧ pl.length ≤ 1000 ∧ (∀ r ∈ pl, r.2 ∈ N.names) ∧ QrsAt H qv qs ∧ qs.length ≤ 20 ∧ (∀ q ∈ qs, q.2.1 ∈ N.names) ∧ ∀ H', Ex TT H H' → Q (.bl (N.enough pl qs)) H'
theorem cal_is_enough (T : Tx K mg C) (D : DefB K mg "is_enough" s_is_enough ["network", "plan", "queries"]) (c_worst_of : C8.Cal P w K mg base 7 "worst_of" (sp_worst_of (C := C) TT) []) : C8.Cal P w K mg base 8 "is_enough" (sp_is_enough (C := C) TT) [] := by
  refine cal_of D sc_is_enough (fun vs H Q E h => by obtain ⟨_, _, _, _, _, _, rfl, _⟩ := h; rfl) (fun fa cdv A outer s H vs Q E hr h => ?_)
  obtain ⟨v, N, vp, pl, vq, qs, rfl, hN, ok, hP, lp, hpn, ⟨p, xs, rfl, hp, hx⟩, lq, hqn, k⟩ := h
  have nd := sc_is_enough.nd
  refine ⟨_, (pss_one (ps_ret (pe_callB (cr_all rfl) (by rfl) T.n_all (by decide +kernel) (pa_cons (lcX (pe_lc (g := (gName 3)) rfl nd (pi_seq (pv 2)) (blkOk_by (own := [("query", 3)]) (N := N_is_enough) (sc := C8.fnScope s_is_enough) (by decide +kernel)) (fun _ _ _ _ _ => (pg_name (i := 3) nd rfl (Or.inl rfl) (by first | exact Or.inr rfl | exact Or.inl rfl))) (fun _ _ _ _ _ => pts_nil) (fun _ _ _ _ _ => (pe_cmpR op_le (C8.pe_c c_worst_of hr (by first | decide | omega) (by rfl) (pa_cons (pv 0) (pa_cons (pv 1) (pa_cons (pv 3) pa_nil)))) (pe_ix (ix_tupK (K := K)) (pv 3) pe_int (fun _ _ => rfl)) (nomark _))))) pa_nil)))), ?_⟩
  walk_at "rd"
  rename_i J o no ho wk
  refine lc_walkP (T := TT) qs (QryAt H) no ho wk hx (by omega) (fun _ => true) (fun _ y q => y = V.bl (decide (N.worst pl q ≤ q.2.2))) (fun _ _ _ _ _ h => h) ?_ ?_
  · intro q x Hc K1 K0 hm hv e k1 k0
    have hQ : QryAt Hc x q := by walk_at "up"
    have hqm := hqn q hm
    obtain ⟨qa, rfl, hqa⟩ := id hQ
    walk_at "rd"
    exact k1 rfl _ _ (by walk_at "up") rfl
  · intro Dl ys H2 hD e hd qq
    rw [filt_true] at qq
    have eq := bools_of (f := fun q : Query => decide (N.worst pl q ≤ q.2.2)) qq
    rw [eq] at hd
    walk_at "rd"
    have := k H2 (by walk_at "up")
    unfold Net.enough at this
    rw [List.all_map]
    exact this
def sp_check_asked : Sp := fun vs H Q _ => ∃ v N h pv pl qv qs, vs = [v, .int h, pv, qv] ∧ NetAt C H v N ∧ NetOk N ∧ PlanAt H pv pl ∧ QrsAt H qv qs ∧ AskOk N h pl qs ∧ ∀ H', Ex TT H H' → Q .non H'
theorem cal_check_asked (T : Tx K mg C) (D : DefB K mg "check_asked" s_check_asked ["network", "horizon", "plan", "queries"]) (c_check_horizon : C8.Cal P w K mg base 2 "check_horizon" (sp_check_horizon (C := C)) []) (c_check_plan : C8.Cal P w K mg base 3 "check_plan" (sp_check_plan (C := C) TT) []) (c_check_queries : C8.Cal P w K mg base 4 "check_queries" (sp_check_queries (C := C) TT) []) : C8.Cal P w K mg base 5 "check_asked" (sp_check_asked (C := C) TT) [] := by
  refine cal_of D sc_check_asked (fun vs H Q E h => by obtain ⟨_, _, _, _, _, _, _, rfl, _⟩ := h; rfl) (fun fa cdv A outer s H vs Q E hr h => ?_)
  obtain ⟨v, N, h, vp, pl, vq, qs, rfl, hN, ok, hP, hQ, ⟨h0, h1, po, q1, q2, qk⟩, k⟩ := h
  have nd := sc_check_asked.nd
  refine ⟨_, (pss_cons (ps_expr (C8.pe_c c_check_horizon hr (by first | decide | omega) (by rfl) (pa_cons (pv 0) (pa_cons (pv 1) pa_nil))))
      (pss_cons (ps_expr (C8.pe_c c_check_plan hr (by first | decide | omega) (by rfl) (pa_cons (pv 0) (pa_cons (pv 1) (pa_cons (pv 2) pa_nil)))))
      (pss_one (ps_expr (C8.pe_c c_check_queries hr (by first | decide | omega) (by rfl) (pa_cons (pv 0) (pa_cons (pv 1) (pa_cons (pv 3) pa_nil)))))))), ?_⟩
  walk_at "rd"
  exact k _ (by walk_at "up")
def sp_is_sufficient : Sp := fun vs H Q _ => ∃ v N h pv pl qv qs, vs = [v, .int h, pv, qv] ∧ NetAt C H v N ∧ NetOk N ∧ PlanAt H pv pl ∧ QrsAt H qv qs ∧ AskOk N h pl qs ∧ ∀ H', Ex TT H H' → Q (.bl (N.enough pl qs)) H'
theorem cal_is_sufficient (T : Tx K mg C) (D : DefB K mg "is_sufficient" s_is_sufficient ["network", "horizon", "plan", "queries"]) (c_check_asked : C8.Cal P w K mg base 5 "check_asked" (sp_check_asked (C := C) TT) []) (c_is_enough : C8.Cal P w K mg base 8 "is_enough" (sp_is_enough (C := C) TT) []) : C8.Cal P w K mg base 9 "is_sufficient" (sp_is_sufficient (C := C) TT) [] := by
  refine cal_of D sc_is_sufficient (fun vs H Q E h => by obtain ⟨_, _, _, _, _, _, _, rfl, _⟩ := h; rfl) (fun fa cdv A outer s H vs Q E hr h => ?_)
  obtain ⟨v, N, h, vp, pl, vq, qs, rfl, hN, ok, hP, hQ, ao, k⟩ := h
  have nd := sc_is_sufficient.nd
  have l1 : pl.length ≤ 1000 := Nat.le_trans ao.po.len (by decide)
  have l2 := ao.q2
  have hpn : ∀ r ∈ pl, r.2 ∈ N.names := fun r hr => (ao.po.el r hr).2.2
  have hqn : ∀ q ∈ qs, q.2.1 ∈ N.names := fun q hq => (ao.qk q hq).2.2.1
  refine ⟨_, (pss_cons (ps_expr (C8.pe_c c_check_asked hr (by first | decide | omega) (by rfl) (pa_cons (pv 0) (pa_cons (pv 1) (pa_cons (pv 2) (pa_cons (pv 3) pa_nil))))))
      (pss_one (ps_ret (C8.pe_c c_is_enough hr (by first | decide | omega) (by rfl) (pa_cons (pv 0) (pa_cons (pv 2) (pa_cons (pv 3) pa_nil))))))), ?_⟩
  walk_at "rd"
  exact k _ (by walk_at "up")
end
end Rf
end

set_option Elab.async false
set_option linter.all false
set_option maxRecDepth 100000
set_option maxHeartbeats 4000000
set_option pp.maxSteps 1500
section
open PySem PySem.Spec PyProof.Rows L2 Rf
local macro_rules | `(tactic| walk_at "up") => `(tactic| first | assumption | exact Ex.refl _ | exact upd_same | (apply upd_at; (focus assumption); walk_at "up") | (apply upd_at'; (focus assumption); walk_at "up") | (apply Ex.mutL; (focus (walk_at "up")); (focus (walk_at "up")); walk_at "up") | (apply Ex.mutD; (focus (walk_at "up")); (focus (walk_at "up")); walk_at "up") | (apply Ex.free'; (focus assumption); walk_at "up") | (apply Ex.atT; (focus assumption); walk_at "up") | (apply Ex.atL; (focus assumption); walk_at "up") | (apply Ex.atD; (focus assumption); walk_at "up") | (apply Ex.atI; (focus assumption); walk_at "up") | (apply Ex.atF; (focus assumption); walk_at "up") | (apply Ex.then'; (focus assumption); walk_at "up") | (apply NetAt.ex; (focus assumption); walk_at "up") | (apply PartsAt.ex; (focus assumption); walk_at "up") | (apply PlanAt.ex; (focus assumption); walk_at "up") | (apply QrsAt.ex; (focus assumption); walk_at "up") | (apply SrcD.ex; (focus assumption); walk_at "up") | (apply VwD.ex; (focus assumption); walk_at "up") | (apply SeqIs.ex; (focus assumption); walk_at "up") | (apply NetAt.ex'; (focus assumption); walk_at "up") | (apply PartsAt.ex'; (focus assumption); walk_at "up") | (apply PlanAt.ex'; (focus assumption); walk_at "up") | (apply QrsAt.ex'; (focus assumption); walk_at "up") | (apply SrcD.ex'; (focus assumption); walk_at "up") | (apply VwD.ex'; (focus assumption); walk_at "up") | (apply SeqIs.ex'; (focus assumption); walk_at "up") | (apply Ex.atT'; (focus assumption); walk_at "up") | (apply Ex.atL'; (focus assumption); walk_at "up") | (apply Ex.atD'; (focus assumption); walk_at "up") | (apply Ex.atI'; (focus assumption); walk_at "up") | (with_reducible apply FrmAt.ex'; (focus assumption); walk_at "up") | (with_reducible apply VwAt.ex'; (focus assumption); walk_at "up") | (with_reducible apply RowAt.ex'; (focus assumption); walk_at "up") | (with_reducible apply SrcAt.ex'; (focus assumption); walk_at "up") | (with_reducible apply QryAt.ex'; (focus assumption); walk_at "up") | (with_reducible apply Rows.ex'; (focus assumption); walk_at "up") | (with_reducible apply StAt.exE; (focus assumption); walk_at "up") | (with_reducible apply sqU; (focus assumption); assumption) | (with_reducible apply sqE; (focus assumption); walk_at "up") | (with_reducible apply sqM; (focus assumption); (focus (walk_at "ne")); walk_at "up") | (with_reducible apply Ex.tabs'; (focus assumption); walk_at "up") | (with_reducible apply Ex.thenM; (focus assumption); (focus (walk_at "up")); walk_at "up") | (with_reducible apply Ex.thenMM; (focus assumption); walk_at "up") | (with_reducible apply atML; (focus assumption); (focus (walk_at "ne")); walk_at "up") | (with_reducible apply atMD; (focus assumption); (focus (walk_at "ne")); walk_at "up") | (with_reducible apply atMT; (focus assumption); (focus (walk_at "ne")); walk_at "up"))
local macro_rules | `(tactic| walk_at "ne") => `(tactic| first | assumption | (apply ne_st; (focus assumption); (walk_at "up")))
local macro_rules | `(tactic| walk_at "sv") => `(tactic| first | rfl | assumption | exact Ex.refl _ | exact ClsV.ty _ | (apply TyX.base; first | exact TyOf.int _ | exact TyOf.str _ | exact TyOf.bl _ | (apply TyOf.tup; walk_at "up") | (apply TyOf.lst; walk_at "up") | (apply TyOf.dK; walk_at "up")) | exact kit_ty (by decide +kernel) | (apply Rd.of; walk_at "up") | (apply DGet_some; (focus (walk_at "up")); assumption) | (apply DGet_f; (focus (walk_at "up")); assumption) | (apply DGet_s; walk_at "up") | (apply DPut_s; (focus (walk_at "up")); omega) | (apply sz5; simp only [List.length_map, List.length_append, List.length_cons, List.length_nil]; omega) | (apply sz4; simp only [List.length_map, List.length_append, List.length_cons, List.length_nil]; omega) | (apply SqL.of; walk_at "up") | (apply SqT.of; walk_at "up") | (apply Or.inl; apply SqL.of; walk_at "up") | (apply Or.inr; apply SqT.of; walk_at "up") | (apply Exists.intro; first | (apply SqL.of; walk_at "up") | (apply SqT.of; walk_at "up")) | exact flatStrs _ | (apply dp_nil; walk_at "up") | (apply dp_strs; walk_at "up") | (apply dp_ints; walk_at "up") | (apply dp_row; walk_at "up") | (apply dp_rowL; walk_at "up") | (apply dp_rows; (focus (walk_at "up")); walk_at "up") | exact shaped_nil | exact shaped_ints | (apply shaped_strs; assumption) | (apply shaped_rows; assumption) | (apply shaped_row; assumption) | (with_reducible apply RowAt.mk; walk_at "up") | (apply tyL; walk_at "up") | (apply tyD; walk_at "up") | (with_reducible apply cmul_r; constructor <;> omega) | (with_reducible apply cmul_l; constructor <;> omega) | (with_reducible apply cdiv_i; constructor <;> omega) | walk_at "up" | (with_reducible apply ne_st; (focus assumption); walk_at "up") | omega | (dsimp only; omega) | decide | (simp only [List.length_map, List.length_append, List.length_cons, List.length_nil]; omega))
local macro_rules | `(tactic| walk_at "cn") => `(tactic| first | assumption | omega | (dsimp only; omega) | (simp only [List.length_map, List.length_append, List.length_cons, List.length_nil, List.length_reverse]; omega) | decide)
local macro_rules | `(tactic| walk_at "rd") => `(tactic| first
  | (with_reducible show LcGo _ _ _ _ _ _ _ _)
  | (with_reducible show DcGo _ _ _ _ _ _ _ _ _)
  | (with_reducible show ForGo _ _ _ _ _ _)
  | (refine allocI (fun p hp => ?_); generalize hh : upd _ _ _ = H2; have e := exNew (T := ‹Tb›) hh hp; have h := updAt hh; clear hh; walk_at "rd")
  | (apply And.intro; (focus (walk_at "sv")); walk_at "rd")
  | (apply Exists.intro; walk_at "rd")
  | (refine iteY ?_ ?_; (focus (walk_at "cn")); walk_at "rd")
  | (refine iteN ?_ ?_; (focus (walk_at "cn")); walk_at "rd")
  | (refine iteY' ?_ ?_; (focus (walk_at "cn")); walk_at "rd")
  | (refine iteN' ?_ ?_; (focus (walk_at "cn")); walk_at "rd")
  | (refine iteBt ?_ ?_; (focus (first | assumption | decide +kernel)); walk_at "rd")
  | (refine iteBf ?_ ?_; (focus (first | assumption | decide +kernel)); walk_at "rd")
  | (intro _; walk_at "rd") | skip)
namespace Rf
section
variable {P : Program} {w : World} {K : PySem.W.Frag} {mg : Str → Option Value} {base : Heap} {C : Addr} (TT : Tb)
def dropR (pl : Plan) (r : Int × Str) : Plan := pl.filter fun x => decide (x ≠ r)
theorem dropR_mem {pl : Plan} {r x : Int × Str} (h : x ∈ dropR pl r) : x ∈ pl := (List.mem_filter.mp h).1
theorem dropR_len (pl : Plan) (r : Int × Str) : (dropR pl r).length ≤ pl.length := List.length_filter_le _ _
theorem Rows.mono {y : V} {b : Int × Str} {Ha Hb : Hp} (t : Tu Ha Hb) (h : RowAt Ha y b) : RowAt Hb y b := h.tu t
def sp_without : Sp := fun vs H Q _ => ∃ p xs pl rv r, vs = [.ref p, rv] ∧ SeqIs H p xs ∧ Rows H xs pl ∧ RowAt H rv r ∧ pl.length ≤ 2000 ∧ (∀ x ∈ pl, PyData.canLay0 (.str x.2) = true) ∧ PyData.canLay0 (.str r.2) = true ∧
  ∀ d ys H', Ex TT H H' → H d = none → H' d = some (.lst ys) → Rows H' ys (dropR pl r) → PlanAt H' (.ref d) (dropR pl r) → Q (.ref d) H'
theorem cal_without (T : Tx K mg C) (D : DefB K mg "without" s_without ["plan", "refresh"]) : C8.Cal P w K mg base 1 "without" (sp_without TT) [] := by
  refine cal_of D sc_without (fun vs H Q E h => by obtain ⟨_, _, _, _, _, rfl, _⟩ := h; rfl) (fun fa cdv A outer s H vs Q E hr h => ?_)
  obtain ⟨p, xs, pl, rv, r, rfl, hp, hx, hr', lp, hc1, hc2, k⟩ := h
  have nd := sc_without.nd
  refine ⟨_, (pss_one (ps_ret (lcX (pe_lc (g := (gName 2)) rfl nd (pi_seq (pv 0)) (blkOk_by (own := [("one", 2)]) (N := N_without) (sc := C8.fnScope s_without) (by decide +kernel)) (fun _ _ _ _ _ => (pg_name (i := 2) nd rfl (Or.inl rfl) (by first | exact Or.inr rfl | exact Or.inl rfl))) (fun _ _ _ _ _ => pts_one (pt_cmpR (op_neDK (K := K) hr.units) (pv 2) (pv 1) (nomark _))) (fun _ _ _ _ _ => (pv 2)))))), ?_⟩
  walk_at "rd"
  rename_i J o no ho wk
  refine lc_walkP (T := TT) pl (RowAt H) no ho wk hx (by omega) (fun x => decide (x ≠ r)) (fun H' y x => RowAt H' y x) (fun y b Ha Hb t h => h.tu t) ?_ ?_
  · intro b x Hc K1 K0 hm hv e k1 k0
    have hb' : RowAt Hc x b := by walk_at "up"
    have hr2 : RowAt Hc rv r := by walk_at "up"
    have hcb := hc1 b hm
    walk_at "rd"
    have ev : (!PyData.eqv (rowD b) (rowD r)) = decide (b ≠ r) := by rw [eqv_row]; simp
    refine ite2 (fun hc => ?_) (fun hc => ?_)
    · have hc : (!PyData.eqv (rowD b) (rowD r)) = true := hc
      rw [ev] at hc
      walk_at "rd"
      exact k1 hc _ _ (Ex.refl _) hb'
    · have hc : ¬ (!PyData.eqv (rowD b) (rowD r)) = true := hc
      rw [ev] at hc
      exact k0 (by simpa using hc) _ (Ex.refl _)
  · intro Dl ys H2 hD e hd qq
    exact k _ ys _ (by walk_at "up") hD hd qq ⟨_, ys, rfl, .inl hd, qq⟩
def sp_check_sufficient : Sp := fun vs H Q _ => ∃ v N h pv pl qv qs, vs = [v, .int h, pv, qv] ∧ NetAt C H v N ∧ NetOk N ∧ PlanAt H pv pl ∧ QrsAt H qv qs ∧ AskOk N h pl qs ∧ N.enough pl qs = true ∧ ∀ H', Ex TT H H' → Q .non H'
theorem cal_check_sufficient (T : Tx K mg C) (D : DefB K mg "check_sufficient" s_check_sufficient ["network", "horizon", "plan", "queries"]) (c_is_sufficient : C8.Cal P w K mg base 9 "is_sufficient" (sp_is_sufficient (C := C) TT) []) : C8.Cal P w K mg base 10 "check_sufficient" (sp_check_sufficient (C := C) TT) [] := by
  refine cal_of D sc_check_sufficient (fun vs H Q E h => by obtain ⟨_, _, _, _, _, _, _, rfl, _⟩ := h; rfl) (fun fa cdv A outer s H vs Q E hr h => ?_)
  obtain ⟨v, N, h, vp, pl, vq, qs, rfl, hN, ok, hP, hQ, ao, en, k⟩ := h
  have nd := sc_check_sufficient.nd
  have en' : (!N.enough pl qs) = false := by rw [en] <;> rfl
  refine ⟨_, (pss_one (ps_if (pt_not (pt_val (C8.pe_c c_is_sufficient hr (by first | decide | omega) (by rfl) (pa_cons (pv 0) (pa_cons (pv 1) (pa_cons (pv 2) (pa_cons (pv 3) pa_nil))))))) (pss_one ps_never) pss_nil)), ?_⟩
  walk_at "rd"
  exact k _ (by walk_at "up")
def slackL (N : Net) (pl : Plan) (qs : List Query) : List Int := qs.map fun q => q.2.2 - N.worst pl q
def sp_slacks : Sp := fun vs H Q _ => ∃ v N h pv pl qv qs, vs = [v, .int h, pv, qv] ∧ NetAt C H v N ∧ NetOk N ∧ PlanAt H pv pl ∧ QrsAt H qv qs ∧ AskOk N h pl qs ∧ N.enough pl qs = true ∧
  ∀ d H', Ex TT H H' → H d = none → H' d = some (.lst ((slackL N pl qs).map V.int)) → Q (.ref d) H'
theorem cal_slacks (T : Tx K mg C) (D : DefB K mg "slacks" s_slacks ["network", "horizon", "plan", "queries"]) (c_check_sufficient : C8.Cal P w K mg base 10 "check_sufficient" (sp_check_sufficient (C := C) TT) []) (c_worst_of : C8.Cal P w K mg base 7 "worst_of" (sp_worst_of (C := C) TT) []) : C8.Cal P w K mg base 11 "slacks" (sp_slacks (C := C) TT) [] := by
  refine cal_of D sc_slacks (fun vs H Q E h => by obtain ⟨_, _, _, _, _, _, _, rfl, _⟩ := h; rfl) (fun fa cdv A outer s H vs Q E hr h => ?_)
  obtain ⟨v, N, h, vp, pl, vq, qs, rfl, hN, ok, hP, ⟨p, xs, rfl, hp, hx⟩, ao, en, k⟩ := h
  have hQ : QrsAt H (.ref p) qs := ⟨p, xs, rfl, hp, hx⟩
  have nd := sc_slacks.nd
  have l1 : pl.length ≤ 1000 := Nat.le_trans ao.po.len (by decide)
  have l2 := ao.q2
  have hpn : ∀ r ∈ pl, r.2 ∈ N.names := fun r hr => (ao.po.el r hr).2.2
  refine ⟨_, (pss_cons (ps_expr (C8.pe_c c_check_sufficient hr (by first | decide | omega) (by rfl) (pa_cons (pv 0) (pa_cons (pv 1) (pa_cons (pv 2) (pa_cons (pv 3) pa_nil))))))
      (pss_one (ps_ret (lcX (pe_lc (g := (gName 4)) rfl nd (pi_seq (pv 3)) (blkOk_by (own := [("query", 4)]) (N := N_slacks) (sc := C8.fnScope s_slacks) (by decide +kernel)) (fun _ _ _ _ _ => (pg_name (i := 4) nd rfl (Or.inl rfl) (by first | exact Or.inr rfl | exact Or.inl rfl))) (fun _ _ _ _ _ => pts_nil) (fun _ _ _ _ _ => (pe_op op_sub (pe_ix (ix_tupK (K := K)) (pv 4) pe_int (fun _ _ => rfl)) (C8.pe_c c_worst_of hr (by first | decide | omega) (by rfl) (pa_cons (pv 0) (pa_cons (pv 2) (pa_cons (pv 4) pa_nil))))))))))), ?_⟩
  walk_at "rd"
  rename_i H1 e1 J o no ho wk
  have hx1 : Paired (QryAt H1) xs qs := Paired.imp hx fun _ _ z => z.tu e1.tu
  refine lc_walkP (T := TT) qs (QryAt H1) no ho wk hx1 (by omega) (fun _ => true) (fun _ y q => y = V.int (q.2.2 - N.worst pl q)) (fun _ _ _ _ _ h => h) ?_ ?_
  · intro q x Hc K1 K0 hm hv e k1 k0
    have hqq : QryAt Hc x q := by walk_at "up"
    have hqm := (ao.qk q hm).2.2.1
    obtain ⟨qa, rfl, hqa⟩ := id hqq
    walk_at "rd"
    exact k1 rfl _ _ (by walk_at "up") rfl
  · intro Dl ys H2 hD e hd qq
    rw [filt_true] at qq
    have eq := ints_of (f := fun q : Query => q.2.2 - N.worst pl q) qq
    rw [eq] at hd
    exact k _ _ (by walk_at "up") (by walk_at "up") hd
def redunL (N : Net) (pl : Plan) (qs : List Query) : Plan := pl.filter fun r => N.enough (dropR pl r) qs
def sp_redundant : Sp := fun vs H Q _ => ∃ v N h pv pl qv qs, vs = [v, .int h, pv, qv] ∧ NetAt C H v N ∧ NetOk N ∧ PlanAt H pv pl ∧ QrsAt H qv qs ∧ AskOk N h pl qs ∧ N.enough pl qs = true ∧
  ∀ d ys H', Ex TT H H' → H d = none → H' d = some (.lst ys) → Rows H' ys (redunL N pl qs) → Q (.ref d) H'
theorem cal_redundant (T : Tx K mg C) (D : DefB K mg "redundant" s_redundant ["network", "horizon", "plan", "queries"]) (c_check_sufficient : C8.Cal P w K mg base 10 "check_sufficient" (sp_check_sufficient (C := C) TT) []) (c_is_enough : C8.Cal P w K mg base 8 "is_enough" (sp_is_enough (C := C) TT) []) (c_without : C8.Cal P w K mg base 1 "without" (sp_without TT) []) : C8.Cal P w K mg base 11 "redundant" (sp_redundant (C := C) TT) [] := by
  refine cal_of D sc_redundant (fun vs H Q E h => by obtain ⟨_, _, _, _, _, _, _, rfl, _⟩ := h; rfl) (fun fa cdv A outer s H vs Q E hr h => ?_)
  obtain ⟨v, N, h, vp, pl, vq, qs, rfl, hN, ok, ⟨p, xs, rfl, hp, hx⟩, hQ, ao, en, k⟩ := h
  have hP : PlanAt H (.ref p) pl := ⟨p, xs, rfl, hp, hx⟩
  have nd := sc_redundant.nd
  have l1 : pl.length ≤ 1000 := Nat.le_trans ao.po.len (by decide)
  have l2 := ao.q2
  have hpn : ∀ r ∈ pl, r.2 ∈ N.names := fun r hr => (ao.po.el r hr).2.2
  have hqn : ∀ q ∈ qs, q.2.1 ∈ N.names := fun q hq => (ao.qk q hq).2.2.1
  have hcan : ∀ x ∈ pl, PyData.canLay0 (.str x.2) = true := fun x hx => (ok.good _ (hpn x hx)).ok
  refine ⟨_, (pss_cons (ps_expr (C8.pe_c c_check_sufficient hr (by first | decide | omega) (by rfl) (pa_cons (pv 0) (pa_cons (pv 1) (pa_cons (pv 2) (pa_cons (pv 3) pa_nil))))))
      (pss_one (ps_ret (lcX (pe_lc (g := (gName 4)) rfl nd (pi_seq (pv 2)) (blkOk_by (own := [("one", 4)]) (N := N_redundant) (sc := C8.fnScope s_redundant) (by decide +kernel)) (fun _ _ _ _ _ => (pg_name (i := 4) nd rfl (Or.inl rfl) (by first | exact Or.inr rfl | exact Or.inl rfl))) (fun _ _ _ _ _ => pts_one (pt_val (C8.pe_c c_is_enough hr (by first | decide | omega) (by rfl) (pa_cons (pv 0) (pa_cons (C8.pe_c c_without hr (by first | decide | omega) (by rfl) (pa_cons (pv 2) (pa_cons (pv 4) pa_nil))) (pa_cons (pv 3) pa_nil)))))) (fun _ _ _ _ _ => (pv 4))))))), ?_⟩
  walk_at "rd"
  rename_i H1 e1 J o no ho wk
  have hx1 : Rows H1 xs pl := by walk_at "up"
  refine lc_walkP (T := TT) pl (RowAt H1) no ho wk hx1 (by omega) (fun r => N.enough (dropR pl r) qs) (fun H' y x => RowAt H' y x) (fun y b Ha Hb t h => h.tu t) ?_ ?_
  · intro b x Hc K1 K0 hm hv e k1 k0
    have hb' : RowAt Hc x b := by walk_at "up"
    have hcb := hcan b hm
    have hpc : SeqIs Hc p xs := by walk_at "up"
    have hxc : Rows Hc xs pl := by walk_at "up"
    have l2k : pl.length ≤ 2000 := by omega
    have dl : (dropR pl b).length ≤ 1000 := Nat.le_trans (dropR_len pl b) l1
    have dn : ∀ r ∈ dropR pl b, r.2 ∈ N.names := fun r hr => hpn r (dropR_mem hr)
    walk_at "rd"
    refine ite2 (fun hc => ?_) (fun hc => ?_)
    · walk_at "rd"
      exact k1 hc _ _ (by walk_at "up") (by walk_at "up")
    · exact k0 (by simpa using hc) _ (by walk_at "up")
  · intro Dl ys H2 hD e hd qq
    exact k _ ys _ (by walk_at "up") (by walk_at "up") hd qq
def trimStep (N : Net) (qs : List Query) (f : Plan) (r : Int × Str) : Plan := if N.enough (dropR f r) qs = true then dropR f r else f
def trimL (N : Net) (pl : Plan) (qs : List Query) : Plan := pl.reverse.foldl (trimStep N qs) pl
theorem trim_sub {N : Net} {qs : List Query} {f : Plan} {r : Int × Str} : ∀ x ∈ trimStep N qs f r, x ∈ f := by
  intro x hx
  unfold trimStep at hx
  split at hx
  · exact dropR_mem hx
  · exact hx
theorem trim_len {N : Net} {qs : List Query} {f : Plan} {r : Int × Str} : (trimStep N qs f r).length ≤ f.length := by
  unfold trimStep
  split
  · exact dropR_len _ _
  · exact Nat.le_refl _
theorem Paired.rev {α β : Type} {F : α → β → Prop} : ∀ {l : List α} {r : List β}, Paired F l r → Paired F l.reverse r.reverse
  | _, _, .nil => .nil
  | _, _, .cons a b => by
    rw [List.reverse_cons, List.reverse_cons]
    exact Paired.appendP (Paired.rev b) (.cons a .nil)
def sp_trimmed : Sp := fun vs H Q _ => ∃ v N h p xs pl qv qs, vs = [v, .int h, .ref p, qv] ∧ NetAt C H v N ∧ NetOk N ∧ H p = some (.tup xs) ∧ Rows H xs pl ∧ QrsAt H qv qs ∧ AskOk N h pl qs ∧ N.enough pl qs = true ∧
  ∀ d ys H', Ex TT H H' → H d = none → H' d = some (.lst ys) → Rows H' ys (trimL N pl qs) → Q (.ref d) H'
theorem cal_trimmed (T : Tx K mg C) (D : DefB K mg "trimmed" s_trimmed ["network", "horizon", "plan", "queries"]) (c_check_sufficient : C8.Cal P w K mg base 10 "check_sufficient" (sp_check_sufficient (C := C) TT) []) (c_is_enough : C8.Cal P w K mg base 8 "is_enough" (sp_is_enough (C := C) TT) []) (c_without : C8.Cal P w K mg base 1 "without" (sp_without TT) []) : C8.Cal P w K mg base 11 "trimmed" (sp_trimmed (C := C) TT) [] := by
  refine cal_of D sc_trimmed (fun vs H Q E h => by obtain ⟨_, _, _, _, _, _, _, _, rfl, _⟩ := h; rfl) (fun fa cdv A outer s H vs Q E hr h => ?_)
  obtain ⟨v, N, h, p, xs, pl, vq, qs, rfl, hN, ok, hp, hx, hQ, ao, en, k⟩ := h
  have hP : PlanAt H (.ref p) pl := ⟨p, xs, rfl, .inr hp, hx⟩
  have nd := sc_trimmed.nd
  have l1 : pl.length ≤ 1000 := Nat.le_trans ao.po.len (by decide)
  have l2 := ao.q2
  have lx := Paired.length hx
  have hpn : ∀ r ∈ pl, r.2 ∈ N.names := fun r hr => (ao.po.el r hr).2.2
  have hqn : ∀ q ∈ qs, q.2.1 ∈ N.names := fun q hq => (ao.qk q hq).2.2.1
  have hcan : ∀ x ∈ pl, PyData.canLay0 (.str x.2) = true := fun x hx => (ok.good _ (hpn x hx)).ok
  refine ⟨_, (pss_cons (ps_expr (C8.pe_c c_check_sufficient hr (by first | decide | omega) (by rfl) (pa_cons (pv 0) (pa_cons (pv 1) (pa_cons (pv 2) (pa_cons (pv 3) pa_nil))))))
      (pss_cons (ps_set (i := 4) nd rfl (Or.inl rfl) (pe_callTy call_list_of (by rfl) T.n_list (by decide +kernel) (pa_cons (pv 2) pa_nil)))
      (pss_cons (forX (ps_for PassesOwn.never rfl (pi_tup (pe_revT (pv 2))) (pg_name (i := 5) nd rfl (Or.inl rfl) (by first | exact Or.inr rfl | exact Or.inl rfl))
      (pss_one (ps_if (pt_val (C8.pe_c c_is_enough hr (by first | decide | omega) (by rfl) (pa_cons (pv 0) (pa_cons (C8.pe_c c_without hr (by first | decide | omega) (by rfl) (pa_cons (pv 4) (pa_cons (pv 5) pa_nil))) (pa_cons (pv 3) pa_nil))))) (pss_one (ps_set (i := 4) nd rfl (Or.inl rfl) (C8.pe_c c_without hr (by first | decide | omega) (by rfl) (pa_cons (pv 4) (pa_cons (pv 5) pa_nil))))) pss_nil))))
      (pss_one (ps_ret (pv 4)))))), ?_⟩
  walk_at "rd"
  rename_i H1 e1 fa0 hfa0 H2 e2 hfa2 rp hrp H3 e3 hrp3
  have hf3 : H3 fa0 = some (.lst xs) := by walk_at "up"
  have hL : xs.reverse.length = pl.reverse.length := by rw [List.length_reverse, List.length_reverse, lx]
  have h13 : Ex TT H H3 := by walk_at "up"
  have hr3 : Rows H xs.reverse pl.reverse := Paired.rev hx
  refine for_goB (walk_tup (K := K) (a := rp) (xs := xs.reverse)) (fun i σ Hc => ∃ fd ys u, σ = [some v, some (.int h), some (.ref p), some vq, some (.ref fd), u] ∧ Ex TT H Hc ∧ Hc rp = some (.tup xs.reverse) ∧ H fd = none ∧ Hc fd = some (.lst ys) ∧ Rows Hc ys ((pl.reverse.take i).foldl (trimStep N qs) pl) ∧
    ((pl.reverse.take i).foldl (trimStep N qs) pl).length ≤ 1000 ∧ ∀ x ∈ (pl.reverse.take i).foldl (trimStep N qs) pl, x ∈ pl) ⟨fa0, xs, _, rfl, h13, hrp3, by walk_at "up", hf3, hx.tu h13.tu, l1, fun x hx => hx⟩ (fun i σ Hc hi ⟨_, _, _, _, _, hl, _⟩ => SqT.of hl) ?_ ?_
  · intro i y σ Hc Hc' hi ⟨fd, ys, u, es, ec, hrp, hfd0, hfd, hys, hlen, hsub⟩ yy
    subst es
    obtain ⟨rfl, hy⟩ := yy
    rw [hL] at hi
    obtain ⟨r, hrr⟩ : ∃ b, pl.reverse[i]? = some b := ⟨pl.reverse[i], List.getElem?_eq_getElem _⟩
    obtain ⟨y', hy', hrow⟩ := Paired.at hr3 hrr
    rw [hy'] at hy
    cases hy
    have hrm : r ∈ pl := List.mem_reverse.mp (List.mem_of_getElem? hrr)
    have step : (pl.reverse.take (i + 1)).foldl (trimStep N qs) pl = trimStep N qs ((pl.reverse.take i).foldl (trimStep N qs) pl) r := by
      rw [List.take_add_one, hrr, List.foldl_append]
      rfl
    rw [step]
    generalize (pl.reverse.take i).foldl (trimStep N qs) pl = st at hys hlen hsub step ⊢
    have hrow' : RowAt Hc' y r := by walk_at "up"
    have hcr := hcan r hrm
    have hsq : SeqIs Hc' fd ys := .inl hfd
    have l2k : st.length ≤ 2000 := by omega
    have hcst : ∀ x ∈ st, PyData.canLay0 (.str x.2) = true := fun x hx => hcan x (hsub x hx)
    have dl : (dropR st r).length ≤ 1000 := Nat.le_trans (dropR_len st r) hlen
    have dn : ∀ z ∈ dropR st r, z.2 ∈ N.names := fun z hz => hpn z (hsub z (dropR_mem hz))
    walk_at "rd"
    refine ite2 (fun hc => ?_) (fun hc => ?_)
    · walk_at "rd"
      rename_i H5 e5 fd2 ys2 H6 e6 hfd2 hfd2' hys2 hP2
      refine ⟨⟨fd2, ys2, _, rfl, by walk_at "up", by walk_at "up", by walk_at "up", hfd2', ?_, Nat.le_trans trim_len hlen, fun x hx => hsub x (trim_sub x hx)⟩⟩
      unfold trimStep
      rw [if_pos hc]
      exact hys2
    · walk_at "rd"
      refine ⟨⟨fd, ys, _, rfl, by walk_at "up", by walk_at "up", hfd0, by walk_at "up", ?_, ?_, ?_⟩⟩
      · unfold trimStep
        rw [if_neg hc]
        walk_at "up"
      · exact Nat.le_trans trim_len hlen
      · exact fun x hx => hsub x (trim_sub x hx)
  · rintro σ Hc ⟨fd, ys, u, rfl, ec, hrp, hfd0, hfd, hys, hlen, hsub⟩
    rw [hL, List.take_length] at hys
    walk_at "rd"
    exact k _ ys _ ec hfd0 hfd hys
end
end Rf
end

set_option Elab.async false
set_option linter.all false
set_option maxRecDepth 100000
set_option maxHeartbeats 4000000
set_option pp.maxSteps 1500
section
open PySem PySem.Spec PyProof.Rows L2 Rf
local macro_rules | `(tactic| walk_at "up") => `(tactic| first | assumption | exact Ex.refl _ | exact upd_same | (apply upd_at; (focus assumption); walk_at "up") | (apply upd_at'; (focus assumption); walk_at "up") | (apply Ex.mutL; (focus (walk_at "up")); (focus (walk_at "up")); walk_at "up") | (apply Ex.mutD; (focus (walk_at "up")); (focus (walk_at "up")); walk_at "up") | (apply Ex.free'; (focus assumption); walk_at "up") | (apply Ex.atT; (focus assumption); walk_at "up") | (apply Ex.atL; (focus assumption); walk_at "up") | (apply Ex.atD; (focus assumption); walk_at "up") | (apply Ex.atI; (focus assumption); walk_at "up") | (apply Ex.atF; (focus assumption); walk_at "up") | (apply Ex.then'; (focus assumption); walk_at "up") | (apply NetAt.ex; (focus assumption); walk_at "up") | (apply PartsAt.ex; (focus assumption); walk_at "up") | (apply PlanAt.ex; (focus assumption); walk_at "up") | (apply QrsAt.ex; (focus assumption); walk_at "up") | (apply SrcD.ex; (focus assumption); walk_at "up") | (apply VwD.ex; (focus assumption); walk_at "up") | (apply SeqIs.ex; (focus assumption); walk_at "up") | (apply NetAt.ex'; (focus assumption); walk_at "up") | (apply PartsAt.ex'; (focus assumption); walk_at "up") | (apply PlanAt.ex'; (focus assumption); walk_at "up") | (apply QrsAt.ex'; (focus assumption); walk_at "up") | (apply SrcD.ex'; (focus assumption); walk_at "up") | (apply VwD.ex'; (focus assumption); walk_at "up") | (apply SeqIs.ex'; (focus assumption); walk_at "up") | (apply Ex.atT'; (focus assumption); walk_at "up") | (apply Ex.atL'; (focus assumption); walk_at "up") | (apply Ex.atD'; (focus assumption); walk_at "up") | (apply Ex.atI'; (focus assumption); walk_at "up") | (with_reducible apply FrmAt.ex'; (focus assumption); walk_at "up") | (with_reducible apply VwAt.ex'; (focus assumption); walk_at "up") | (with_reducible apply RowAt.ex'; (focus assumption); walk_at "up") | (with_reducible apply SrcAt.ex'; (focus assumption); walk_at "up") | (with_reducible apply QryAt.ex'; (focus assumption); walk_at "up") | (with_reducible apply Rows.ex'; (focus assumption); walk_at "up") | (with_reducible apply StAt.exE; (focus assumption); walk_at "up") | (with_reducible apply sqU; (focus assumption); assumption) | (with_reducible apply sqE; (focus assumption); walk_at "up") | (with_reducible apply sqM; (focus assumption); (focus (walk_at "ne")); walk_at "up") | (with_reducible apply Ex.tabs'; (focus assumption); walk_at "up") | (with_reducible apply Ex.thenM; (focus assumption); (focus (walk_at "up")); walk_at "up") | (with_reducible apply Ex.thenMM; (focus assumption); walk_at "up") | (with_reducible apply atML; (focus assumption); (focus (walk_at "ne")); walk_at "up") | (with_reducible apply atMD; (focus assumption); (focus (walk_at "ne")); walk_at "up") | (with_reducible apply atMT; (focus assumption); (focus (walk_at "ne")); walk_at "up"))
local macro_rules | `(tactic| walk_at "ne") => `(tactic| first | assumption | (apply ne_st; (focus assumption); (walk_at "up")))
local macro_rules | `(tactic| walk_at "sv") => `(tactic| first | rfl | assumption | exact Ex.refl _ | exact ClsV.ty _ | (apply TyX.base; first | exact TyOf.int _ | exact TyOf.str _ | exact TyOf.bl _ | (apply TyOf.tup; walk_at "up") | (apply TyOf.lst; walk_at "up") | (apply TyOf.dK; walk_at "up")) | exact kit_ty (by decide +kernel) | (apply Rd.of; walk_at "up") | (apply DGet_some; (focus (walk_at "up")); assumption) | (apply DGet_f; (focus (walk_at "up")); assumption) | (apply DGet_s; walk_at "up") | (apply DPut_s; (focus (walk_at "up")); omega) | (apply sz5; simp only [List.length_map, List.length_append, List.length_cons, List.length_nil]; omega) | (apply sz4; simp only [List.length_map, List.length_append, List.length_cons, List.length_nil]; omega) | (apply SqL.of; walk_at "up") | (apply SqT.of; walk_at "up") | (apply Or.inl; apply SqL.of; walk_at "up") | (apply Or.inr; apply SqT.of; walk_at "up") | (apply Exists.intro; first | (apply SqL.of; walk_at "up") | (apply SqT.of; walk_at "up")) | exact flatStrs _ | (apply dp_nil; walk_at "up") | (apply dp_strs; walk_at "up") | (apply dp_ints; walk_at "up") | (apply dp_row; walk_at "up") | (apply dp_rowL; walk_at "up") | (apply dp_rows; (focus (walk_at "up")); walk_at "up") | exact shaped_nil | exact shaped_ints | (apply shaped_strs; assumption) | (apply shaped_rows; assumption) | (apply shaped_row; assumption) | (with_reducible apply RowAt.mk; walk_at "up") | (apply tyL; walk_at "up") | (apply tyD; walk_at "up") | (with_reducible apply cmul_r; constructor <;> omega) | (with_reducible apply cmul_l; constructor <;> omega) | (with_reducible apply cdiv_i; constructor <;> omega) | walk_at "up" | (with_reducible apply ne_st; (focus assumption); walk_at "up") | omega | (dsimp only; omega) | decide | (simp only [List.length_map, List.length_append, List.length_cons, List.length_nil]; omega))
local macro_rules | `(tactic| walk_at "cn") => `(tactic| first | assumption | omega | (dsimp only; omega) | (simp only [List.length_map, List.length_append, List.length_cons, List.length_nil, List.length_reverse]; omega) | decide)
local macro_rules | `(tactic| walk_at "rd") => `(tactic| first
  | (with_reducible show LcGo _ _ _ _ _ _ _ _)
  | (with_reducible show DcGo _ _ _ _ _ _ _ _ _)
  | (with_reducible show ForGo _ _ _ _ _ _)
  | (refine allocI (fun p hp => ?_); generalize hh : upd _ _ _ = H2; have e := exNew (T := ‹Tb›) hh hp; have h := updAt hh; clear hh; walk_at "rd")
  | (apply And.intro; (focus (walk_at "sv")); walk_at "rd")
  | (apply Exists.intro; walk_at "rd")
  | (refine iteY ?_ ?_; (focus (walk_at "cn")); walk_at "rd")
  | (refine iteN ?_ ?_; (focus (walk_at "cn")); walk_at "rd")
  | (refine iteY' ?_ ?_; (focus (walk_at "cn")); walk_at "rd")
  | (refine iteN' ?_ ?_; (focus (walk_at "cn")); walk_at "rd")
  | (refine iteBt ?_ ?_; (focus (first | assumption | decide +kernel)); walk_at "rd")
  | (refine iteBf ?_ ?_; (focus (first | assumption | decide +kernel)); walk_at "rd")
  | (intro _; walk_at "rd") | skip)
namespace Rf
open NdefX LamX
theorem Ex.tabs' {T : Tb} {H H' : Hp} (h : LamX.Tabs T H) (e : Ex T H H') : LamX.Tabs T H' := e.tb h
theorem sqE {K : PySem.W.Frag} {T : Tb} {H H' : Hp} {a : Addr} {xs : List V} (h : SqL K H a xs) (e : Ex T H H') : SqL K H' a xs := e.sqL h
theorem sqU {K : PySem.W.Frag} {H : Hp} {a p : Addr} {xs : List V} {o : HO} (h : SqL K H a xs) (n : a ≠ p) : SqL K (upd H p o) a xs := by
  rcases h with (h | ⟨u, h⟩) | h
  · exact .inl (.inl (by rw [upd_ne n]; exact h))
  · exact .inl (.inr ⟨u, by rw [upd_ne n]; exact h⟩)
  · exact .inr h
/-! ### a lambda's object -/
/-- the object at f is the lambda of the words F (its body apart: e) -/
def LamO (f : Addr) (F : NF) (e : Expr) : HO := .ext fun h => ∃ pm ctv : Value, h.get? f = some (PySem.W.kla_obj F.name F.qual F.params e F.scope F.cl pm F.c ctv)
theorem lamO_at {P : Program} {w : World} {H : Hp} {h : Heap} {f : Addr} {F : NF} {e : Expr} (ok : HOk P w H h) (q : H f = some (LamO f F e)) : ∃ pm ctv : Value, h.get? f = some (PySem.W.kla_obj F.name F.qual F.params e F.scope F.cl pm F.c ctv) := (ok f _ q).1
/-- the words of a lambda in the def whose qualified name is q -/
abbrev LF (q : Str) (cells : List (Str × Addr)) (params : Arguments) (scope : Scope) (c : Addr) : NF := ⟨"<lambda>", q ++ "<lambda>", params, [], scope, cloFrom cells scope.names [], c⟩
theorem noTbl_lam {f : Addr} {F : NF} {e : Expr} : noTbl (LamO f F e) = true := rfl
theorem noTbl_code {c : Addr} {q : Str} : noTbl (CodeO c q) = true := rfl
theorem noTbl_ne {o : HO} (n : noTbl o = true) (ps : Array Value) : o ≠ .tbl ps := fun z => by
  rw [z] at n
  cases n
section
variable {X : Cx} {pins : List (Addr × Obj)} {σ : L2.St} {H : Hp} {s : Shared}
/-- the object just laid at the end is known as a lambda -/
theorem inv_lam {F : NF} {e : Expr} {o : Obj} {n : Nat} {pm ctv : Value} (I : Inv X pins σ H s) (ho : o = PySem.W.kla_obj F.name F.qual F.params e F.scope F.cl pm F.c ctv) :
    Inv X pins σ (upd H s.heap.objs.size (LamO s.heap.objs.size F e)) { s with heap := s.heap.push o, toks := n } := by
  subst ho
  have at_ := Heap.get?_push_size (o := PySem.W.kla_obj F.name F.qual F.params e F.scope F.cl pm F.c ctv) s.heap rfl
  exact I.laid (a := s.heap.objs.size) (fun b u q => Heap.get?_push_of_some _ q) (Nat.le_refl _) ⟨⟨pm, ctv, at_⟩, ⟨_, at_⟩, fun h1 h2 ⟨p, v, z⟩ st => ⟨p, v, st _ z⟩⟩
theorem tab_snoc {T : Tb} {P c' : Addr} {q : Str} {ps : Array Value} {pos : Pos} (hP : H P = some (.tbl ps)) (nC : H c' = none) (ht : TriplesOk ps.toList) (hu : ∀ p ∈ T, p.1 = P → p.2 = q) (hT : Tabs T H) :
    Tabs T (upd (upd H P (.tbl (ps ++ #[rawInt pos.line, rawInt pos.col, .ref c']))) c' (CodeO c' q)) := by
  have old : ∀ b o, H b = some o → noTbl o = true → upd (upd H P (.tbl (ps ++ #[rawInt pos.line, rawInt pos.col, .ref c']))) c' (CodeO c' q) b = some o := fun b o e n => by
    rw [upd_ne (ne_of_none e nC), upd_ne fun z => noTbl_ne n ps (by rw [z, hP] at e; exact (Option.some.inj e).symm)]
    exact e
  intro p hp
  obtain ⟨qs, g1, g2, g3⟩ := hT p hp
  by_cases hb : p.1 = P
  · have eq : qs = ps := by
      rw [hb, hP] at g1
      cases g1
      rfl
    subst eq
    have eq2 := hu p hp hb
    have eL : (qs ++ #[rawInt pos.line, rawInt pos.col, .ref c']).toList = qs.toList ++ [rawInt pos.line, rawInt pos.col, .ref c'] := by simp
    rw [eq2, hb]
    refine ⟨qs ++ #[rawInt pos.line, rawInt pos.col, .ref c'], ?_, ?_, ?_⟩
    · rw [upd_ne (ne_of_none hP nC), upd_same]
    · rw [eL]
      exact PySem.TriplesOk_snoc _ _ _ _ ht
    · intro p' cv hcv
      rw [eL] at hcv
      rcases among_app _ ht hcv with z | z
      · obtain ⟨c0, k1, k2⟩ := g3 p' cv z
        rw [eq2] at k2
        exact ⟨c0, k1, old _ _ k2 noTbl_code⟩
      · exact ⟨c', z, upd_same⟩
  · refine ⟨qs, ?_, g2, ?_⟩
    · rw [upd_ne (ne_of_none g1 nC), upd_ne hb]
      exact g1
    · intro p' cv hcv
      obtain ⟨c0, k1, k2⟩ := g3 p' cv hcv
      exact ⟨c0, k1, old _ _ k2 noTbl_code⟩
/-- a lambda is made -/
theorem lam3 {T : Tb} {c P : Addr} {params : Arguments} {body : Expr} {scope : Scope} {pos : Pos} {E Q : Value → Shared → Prop} (I : Inv X pins σ H s) (TB : TabB X.base X.mg c P) (hcode : X.env.code = .ref c)
    (hm : (P, X.env.qual ++ "<lambda>") ∈ T) (hu : ∀ p ∈ T, p.1 = P → p.2 = X.env.qual ++ "<lambda>") (hT : Tabs T H) (hdef : defaultsOf params X.env = ([], [])) (hfree : ∀ y ∈ scope.names, y.2 = .free → ∃ c, X.env.cells.lookup y.1 = some c)
    (h : ∀ (f c' : Addr) (H1 : Hp) (s' : Shared), Inv X pins σ H1 s' → Ex T H H1 → Tabs T H1 → H f = none → H1 f = some (LamO f (LF X.env.qual X.env.cells params scope c') body) → H1 c' = some (CodeO c' (X.env.qual ++ "<lambda>")) → Q (.ref f) s') :
    wpAny (model X.prog X.w) X.A (eval (.Lambda params body scope pos) X.env) Q E s := by
  obtain ⟨ps, hP, ht, ha⟩ := hT _ hm
  have hPs : s.heap.get? P = some { cls := .none, data := .fields ps } := I.hok P _ hP
  have hB := TB.bm.keeps I.bk
  refine PySem.W.kla_eval hdef ?_
  cases hc : codeAmong pos ps.toList with
  | some cv =>
    obtain ⟨c', rfl, hco⟩ := ha pos cv hc
    refine PySem.W.kla_makeFunctionHit (clos := cloFrom X.env.cells scope.names []) (closure_ok hfree) I.ok.glob (I.mod.glob.keeps I.bk) hcode (TB.code.keeps I.bk) hPs ht hc hB ?_
    intro ctv h' tk hx hsz
    have J : Inv X pins σ H { s with heap := h', toks := tk } := I.kept hx
    have nF : H h'.objs.size = none := J.hok.fresh (Nat.le_refl _)
    exact h h'.objs.size c' _ _ (inv_lam (F := LF X.env.qual X.env.cells params scope c') (e := body) (n := tk) J rfl) (Ex.new nF) (hT.ext fun b o e => by rw [upd_ne (ne_of_none e nF)]; exact e) nF upd_same (by rw [upd_ne (ne_of_none hco nF)]; exact hco)
  | none =>
    refine PySem.W.kla_makeFunction (clos := cloFrom X.env.cells scope.names []) (closure_ok hfree) I.ok.glob (I.mod.glob.keeps I.bk) hcode (TB.code.keeps I.bk) hPs ht hc TB.gP hB ?_
    intro c' ctv h' tk hx hge hlt hrec htb
    obtain ⟨c2, oc, vs, t, e2, hoc, hd, hv⟩ := hrec
    cases e2
    have nC : H c' = none := I.hok.fresh hge
    have J := inv_table (t' := tk) (h' := h') (more := #[rawInt pos.line, rawInt pos.col, .ref c']) I hP (fun b o n e => hx b o n e) htb hge ⟨oc, vs, t, hoc, hd, hv⟩
    have nF := J.hok.fresh (a := h'.objs.size) (Nat.le_refl _)
    have T1 := tab_snoc (pos := pos) hP nC ht hu hT
    have E1 : Ex T H (upd (upd H P (.tbl (ps ++ #[rawInt pos.line, rawInt pos.col, .ref c']))) c' (CodeO c' (X.env.qual ++ "<lambda>"))) := by
      refine ⟨fun b o e n => ?_, fun b e => upd_none (upd_none e), fun _ => T1⟩
      rw [upd_ne (ne_of_none e nC), upd_ne fun z => noTbl_ne n ps (by rw [z, hP] at e; exact (Option.some.inj e).symm)]
      exact e
    exact h h'.objs.size c' _ _ (inv_lam (F := LF X.env.qual X.env.cells params scope c') (e := body) (n := tk) J rfl) (E1.trans (Ex.new nF)) (T1.ext fun b o e => by rw [upd_ne (ne_of_none e nF)]; exact e) (upd_none (upd_none nF)) upd_same (by rw [upd_ne (Nat.ne_of_lt hlt)]; exact upd_same)
end
/-! ### what a lambda promises -/
structure LOk (P : Program) (w : World) (K : PySem.W.Frag) (mg : Str → Option Value) (base : Heap) (CX : CXT) (k : Nat) (f : Addr) (F : NF) (e : Expr) (ps fr : List Str) (sp : List (Option V) → Sp) : Prop where
  run : ∀ (A : Around) (outer : List Env) (s : Shared) (H : Hp) (us : List Value) (vs : List V) (ws : List (Option V)) (Q : VK) (E : XK), Room k A → Env0 P w K mg base A outer s H → H f = some (LamO f F e) → H F.c = some (CodeO F.c F.qual) →
    CellsAt F.cl fr ws s.heap H → Vals vs us → vs.length = ps.length → sp ws vs H Q E → codeAny (model P w) A (.call (.ref f) ⟨us, []⟩) (CR CX outer P w H s Q E) s
theorem lok_of {CX : CXT} {P : Program} {w : World} {K : PySem.W.Frag} {mg : Str → Option Value} {base : Heap} {N ps fr : List Str} {F : NF} {e : Expr} {f : Addr} {k : Nat} {sp : List (Option V) → Sp} (S : NScope N ps fr F.scope)
    (hb : ∀ (pm ctv : Value) (us : List Value), us.length = ps.length → bindArgs (PySem.W.kla_fn F.name F.qual F.params e F.scope F.cl pm (.ref F.c) ctv) ⟨us, []⟩ = pure (ps.zip us))
    (hbody : ∀ (A : Around) (outer : List Env) (s : Shared) (H : Hp) (vs : List V) (ws : List (Option V)) (Q : VK) (E : XK), Room k (A.deeper (envF F f s.heap.objs.size)) → ws.length = fr.length → sp ws vs H Q E →
      ∃ t, PE (ncx CX P w K mg base N F f A outer s H E) e t ∧ t (startF N vs ws) H Q) : LOk P w K mg base CX (k + 1) f F e ps fr sp := by
  refine ⟨fun A outer s H us vs ws Q E hr e0 hf hc C r hl hsp => ?_⟩
  have lim : s.heap.NoLimit := e0.mod.nolimit.keeps fun b o q => (e0.bs b o q).1
  obtain ⟨pm, ctv, ho⟩ := lamO_at e0.hok hf
  refine PySem.W.kla_callFunE hr.depth ho rfl S.co S.gen rfl (codeO_at e0.hok hc) ?_
  rw [hb pm ctv us (by rw [← r.length]; exact hl)]
  refine wpAny_pure (wpAny_newFunctionEnv S.nocell (fun y hy => S.par y.1 (List.of_mem_zip hy).1) (fun h₁ hns hsb => ?_) S.kind)
  have kp : ∀ b o, s.heap.get? b = some o → h₁.get? b = some o := fun b o q => hsb.extBut b o (Nat.ne_of_lt (Heap.lt_size q)) (Heap.get?_push_of_some _ q)
  refine ⟨lim.fresh _ hsb, ?_⟩
  obtain ⟨t, ht, hq⟩ := hbody A outer s H vs ws Q E (hr.deeper _) C.len hsp
  have J : Inv (ncx CX P w K mg base N F f A outer s H E) [] (startF N vs ws) H { s with heap := h₁, toks := s.toks + (ps.zip us).length } := inv_startN S hr.hd e0 hl r C hns kp
  refine PySem.W.kla_codeExpr (wpAny_mono (ht.run [] _ _ H Q J hq) (fun u s' z => ?_) fun _ _ z => z)
  obtain ⟨v, H', J', rv, q⟩ := z
  exact ⟨v, H', J'.os, J'.bare, J'.base, J'.hok, rv, q⟩
end Rf
end

set_option Elab.async false
set_option linter.all false
set_option maxRecDepth 100000
set_option maxHeartbeats 4000000
set_option pp.maxSteps 1500
section
open PySem PySem.Spec PyProof.Rows L2 Rf
local macro_rules | `(tactic| walk_at "up") => `(tactic| first | assumption | exact Ex.refl _ | exact upd_same | (apply upd_at; (focus assumption); walk_at "up") | (apply upd_at'; (focus assumption); walk_at "up") | (apply Ex.mutL; (focus (walk_at "up")); (focus (walk_at "up")); walk_at "up") | (apply Ex.mutD; (focus (walk_at "up")); (focus (walk_at "up")); walk_at "up") | (apply Ex.free'; (focus assumption); walk_at "up") | (apply Ex.atT; (focus assumption); walk_at "up") | (apply Ex.atL; (focus assumption); walk_at "up") | (apply Ex.atD; (focus assumption); walk_at "up") | (apply Ex.atI; (focus assumption); walk_at "up") | (apply Ex.atF; (focus assumption); walk_at "up") | (apply Ex.then'; (focus assumption); walk_at "up") | (apply NetAt.ex; (focus assumption); walk_at "up") | (apply PartsAt.ex; (focus assumption); walk_at "up") | (apply PlanAt.ex; (focus assumption); walk_at "up") | (apply QrsAt.ex; (focus assumption); walk_at "up") | (apply SrcD.ex; (focus assumption); walk_at "up") | (apply VwD.ex; (focus assumption); walk_at "up") | (apply SeqIs.ex; (focus assumption); walk_at "up") | (apply NetAt.ex'; (focus assumption); walk_at "up") | (apply PartsAt.ex'; (focus assumption); walk_at "up") | (apply PlanAt.ex'; (focus assumption); walk_at "up") | (apply QrsAt.ex'; (focus assumption); walk_at "up") | (apply SrcD.ex'; (focus assumption); walk_at "up") | (apply VwD.ex'; (focus assumption); walk_at "up") | (apply SeqIs.ex'; (focus assumption); walk_at "up") | (apply Ex.atT'; (focus assumption); walk_at "up") | (apply Ex.atL'; (focus assumption); walk_at "up") | (apply Ex.atD'; (focus assumption); walk_at "up") | (apply Ex.atI'; (focus assumption); walk_at "up") | (with_reducible apply FrmAt.ex'; (focus assumption); walk_at "up") | (with_reducible apply VwAt.ex'; (focus assumption); walk_at "up") | (with_reducible apply RowAt.ex'; (focus assumption); walk_at "up") | (with_reducible apply SrcAt.ex'; (focus assumption); walk_at "up") | (with_reducible apply QryAt.ex'; (focus assumption); walk_at "up") | (with_reducible apply Rows.ex'; (focus assumption); walk_at "up") | (with_reducible apply StAt.exE; (focus assumption); walk_at "up") | (with_reducible apply sqU; (focus assumption); assumption) | (with_reducible apply sqE; (focus assumption); walk_at "up") | (with_reducible apply sqM; (focus assumption); (focus (walk_at "ne")); walk_at "up") | (with_reducible apply Ex.tabs'; (focus assumption); walk_at "up") | (with_reducible apply Ex.thenM; (focus assumption); (focus (walk_at "up")); walk_at "up") | (with_reducible apply Ex.thenMM; (focus assumption); walk_at "up") | (with_reducible apply atML; (focus assumption); (focus (walk_at "ne")); walk_at "up") | (with_reducible apply atMD; (focus assumption); (focus (walk_at "ne")); walk_at "up") | (with_reducible apply atMT; (focus assumption); (focus (walk_at "ne")); walk_at "up"))
local macro_rules | `(tactic| walk_at "ne") => `(tactic| first | assumption | (apply ne_st; (focus assumption); (walk_at "up")))
local macro_rules | `(tactic| walk_at "sv") => `(tactic| first | rfl | assumption | exact Ex.refl _ | exact ClsV.ty _ | (apply TyX.base; first | exact TyOf.int _ | exact TyOf.str _ | exact TyOf.bl _ | (apply TyOf.tup; walk_at "up") | (apply TyOf.lst; walk_at "up") | (apply TyOf.dK; walk_at "up")) | exact kit_ty (by decide +kernel) | (apply Rd.of; walk_at "up") | (apply DGet_some; (focus (walk_at "up")); assumption) | (apply DGet_f; (focus (walk_at "up")); assumption) | (apply DGet_s; walk_at "up") | (apply DPut_s; (focus (walk_at "up")); omega) | (apply sz5; simp only [List.length_map, List.length_append, List.length_cons, List.length_nil]; omega) | (apply sz4; simp only [List.length_map, List.length_append, List.length_cons, List.length_nil]; omega) | (apply SqL.of; walk_at "up") | (apply SqT.of; walk_at "up") | (apply Or.inl; apply SqL.of; walk_at "up") | (apply Or.inr; apply SqT.of; walk_at "up") | (apply Exists.intro; first | (apply SqL.of; walk_at "up") | (apply SqT.of; walk_at "up")) | exact flatStrs _ | (apply dp_nil; walk_at "up") | (apply dp_strs; walk_at "up") | (apply dp_ints; walk_at "up") | (apply dp_row; walk_at "up") | (apply dp_rowL; walk_at "up") | (apply dp_rows; (focus (walk_at "up")); walk_at "up") | exact shaped_nil | exact shaped_ints | (apply shaped_strs; assumption) | (apply shaped_rows; assumption) | (apply shaped_row; assumption) | (with_reducible apply RowAt.mk; walk_at "up") | (apply tyL; walk_at "up") | (apply tyD; walk_at "up") | (with_reducible apply cmul_r; constructor <;> omega) | (with_reducible apply cmul_l; constructor <;> omega) | (with_reducible apply cdiv_i; constructor <;> omega) | walk_at "up" | (with_reducible apply ne_st; (focus assumption); walk_at "up") | omega | (dsimp only; omega) | decide | (simp only [List.length_map, List.length_append, List.length_cons, List.length_nil]; omega))
local macro_rules | `(tactic| walk_at "cn") => `(tactic| first | assumption | omega | (dsimp only; omega) | (simp only [List.length_map, List.length_append, List.length_cons, List.length_nil, List.length_reverse]; omega) | decide)
local macro_rules | `(tactic| walk_at "rd") => `(tactic| first
  | (with_reducible show LcGo _ _ _ _ _ _ _ _)
  | (with_reducible show DcGo _ _ _ _ _ _ _ _ _)
  | (with_reducible show ForGo _ _ _ _ _ _)
  | (refine allocI (fun p hp => ?_); generalize hh : upd _ _ _ = H2; have e := exNew (T := ‹Tb›) hh hp; have h := updAt hh; clear hh; walk_at "rd")
  | (apply And.intro; (focus (walk_at "sv")); walk_at "rd")
  | (apply Exists.intro; walk_at "rd")
  | (refine iteY ?_ ?_; (focus (walk_at "cn")); walk_at "rd")
  | (refine iteN ?_ ?_; (focus (walk_at "cn")); walk_at "rd")
  | (refine iteY' ?_ ?_; (focus (walk_at "cn")); walk_at "rd")
  | (refine iteN' ?_ ?_; (focus (walk_at "cn")); walk_at "rd")
  | (refine iteBt ?_ ?_; (focus (first | assumption | decide +kernel)); walk_at "rd")
  | (refine iteBf ?_ ?_; (focus (first | assumption | decide +kernel)); walk_at "rd")
  | (intro _; walk_at "rd") | skip)
namespace Rf
section
variable {P : Program} {w : World} {K : PySem.W.Frag} {mg : Str → Option Value} {base : Heap} {C : Addr} (TT : Tb)
def keyD (N : Net) (r : Int × Str) : PyData := .tuple [.int r.1, .int (N.idx r.2 : Nat)]
/-- the refreshes in order -/
def sortP (N : Net) (pl : Plan) : Plan := pl.mergeSort (PySem.W.dataLe false (keyD N))
theorem sortP_mem {N : Net} {pl : Plan} {x : Int × Str} : x ∈ sortP N pl ↔ x ∈ pl := List.mem_mergeSort
theorem sortP_len (N : Net) (pl : Plan) : (sortP N pl).length = pl.length := List.length_mergeSort _
def sp_sorted_plan : Sp := fun vs H Q _ => ∃ v N p xs pl, vs = [v, .ref p] ∧ NetAt C H v N ∧ NetOk N ∧ LamX.Tabs TT H ∧ H p = some (.lst xs) ∧ Rows H xs pl ∧ pl.length ≤ 2000 ∧ (∀ r ∈ pl, r.2 ∈ N.names) ∧
  ∀ d ys H', Ex TT H H' → H d = none → H' d = some (.lst ys) → Rows H' ys (sortP N pl) → PlanAt H' (.ref d) (sortP N pl) → Q (.ref d) H'
/-- a refresh later -/
def movedP (N : Net) (f : Plan) (r : Int × Str) (t : Int) : Plan := sortP N (dropR f r ++ [(t, r.2)])
def moveOk (N : Net) (qs : List Query) (f : Plan) (r : Int × Str) (t : Int) : Bool := !decide ((t, r.2) ∈ f) && N.enough (movedP N f r t) qs
def latersD (h t : Int) : List Int := (List.range (h - t).toNat).map fun i => h + (i : Nat) * -1
def delayStep (N : Net) (h : Int) (qs : List Query) (f : Plan) (r : Int × Str) : Plan :=
  match (latersD h r.1).find? (moveOk N qs f r) with
  | some t => movedP N f r t
  | none => f
def delayL (N : Net) (h : Int) (pl : Plan) (qs : List Query) : Plan := pl.reverse.foldl (delayStep N h qs) pl
def sp_delayed : Sp := fun vs H Q _ => ∃ v N h p xs pl qv qs, vs = [v, .int h, .ref p, qv] ∧ NetAt C H v N ∧ NetOk N ∧ LamX.Tabs TT H ∧ H p = some (.tup xs) ∧ Rows H xs pl ∧ QrsAt H qv qs ∧ AskOk N h pl qs ∧ N.enough pl qs = true ∧
  ∀ d ys H', Ex TT H H' → H d = none → H' d = some (.lst ys) → Rows H' ys (delayL N h pl qs) → Q (.ref d) H'
theorem moved_len {N : Net} {f : Plan} {r : Int × Str} {t : Int} : (movedP N f r t).length ≤ f.length + 1 := by
  unfold movedP
  rw [sortP_len, List.length_append, List.length_singleton]
  have := dropR_len f r
  omega
theorem moved_mem {N : Net} {f : Plan} {r : Int × Str} {t : Int} (h : ∀ x ∈ f, x.2 ∈ N.names) (hr : r.2 ∈ N.names) : ∀ x ∈ movedP N f r t, x.2 ∈ N.names := by
  intro x hx
  unfold movedP at hx
  rw [sortP_mem] at hx
  rcases List.mem_append.mp hx with hx | hx
  · exact h x (dropR_mem hx)
  · simp at hx
    rw [hx]
    exact hr
theorem rows_in {l : Plan} {x : Int × Str} : (l.map rowD).any (fun z => PyData.eqv z (rowD x)) = decide (x ∈ l) := by
  rw [List.any_map]
  induction l with
  | nil => simp
  | cons a r ih =>
    rw [List.any_cons, ih]
    show (PyData.eqv (rowD a) (rowD x) || _) = _
    rw [eqv_row]
    by_cases h : a = x
    · subst h; simp
    · have h' : ¬ x = a := fun z => h z.symm
      simp [h, h']
theorem find_first {α : Type} {p : α → Bool} : ∀ {l : List α} {j : Nat} {t : α}, l[j]? = some t → p t = true → (∀ x ∈ l.take j, p x = false) → l.find? p = some t
  | [], _, _, h, _, _ => by simp at h
  | a :: r, 0, t, h, ht, _ => by
    simp at h
    subst h
    rw [List.find?_cons_of_pos ht]
  | a :: r, j + 1, t, h, ht, hn => by
    rw [List.find?_cons_of_neg (by rw [hn a (by simp)]; exact Bool.false_ne_true)]
    exact find_first (j := j) (by simpa using h) ht fun x hx => hn x (by rw [List.take_succ_cons]; exact List.mem_cons_of_mem _ hx)
theorem cal_delayed (T : Tx K mg C) (D : DefB K mg "delayed" s_delayed ["network", "horizon", "plan", "queries"]) (c_check_sufficient : C8.Cal P w K mg base 10 "check_sufficient" (sp_check_sufficient (C := C) TT) []) (c_is_enough : C8.Cal P w K mg base 8 "is_enough" (sp_is_enough (C := C) TT) []) (c_without : C8.Cal P w K mg base 1 "without" (sp_without TT) [])
    (c_sorted_plan : C8.Cal P w K mg base 6 "sorted_plan" (sp_sorted_plan (C := C) TT) []) : C8.Cal P w K mg base 11 "delayed" (sp_delayed (C := C) TT) [] := by
  refine cal_of D sc_delayed (fun vs H Q E h => by obtain ⟨_, _, _, _, _, _, _, _, rfl, _⟩ := h; rfl) (fun fa cdv A outer s H vs Q E hr h => ?_)
  obtain ⟨v, N, h, p, xs, pl, vq, qs, rfl, hN, ok, hTab, hp, hx, hQ, ao, en, k⟩ := h
  have hP : PlanAt H (.ref p) pl := ⟨p, xs, rfl, .inr hp, hx⟩
  have nd := sc_delayed.nd
  have l1 := ao.po.len
  have l2 := ao.q2
  have lx := Paired.length hx
  have hpn : ∀ r ∈ pl, r.2 ∈ N.names := fun r hr => (ao.po.el r hr).2.2
  have hqn : ∀ q ∈ qs, q.2.1 ∈ N.names := fun q hq => (ao.qk q hq).2.2.1
  have hcanN : ∀ x ∈ N.names, PyData.canLay0 (.str x) = true := fun x hx => (ok.good _ hx).ok
  refine ⟨_, (pss_cons (ps_expr (C8.pe_c c_check_sufficient hr (by first | decide | omega) (by rfl) (pa_cons (pv 0) (pa_cons (pv 1) (pa_cons (pv 2) (pa_cons (pv 3) pa_nil))))))
      (pss_cons (ps_set (i := 4) nd rfl (Or.inl rfl) (pe_callTy call_list_of (by rfl) T.n_list (by decide +kernel) (pa_cons (pv 2) pa_nil)))
      (pss_cons (forX (ps_for PassesOwn.never rfl (pi_tup (pe_revT (pv 2))) (pg_tup rfl (pgs_cons (pg_name (i := 5) nd rfl (Or.inl rfl) (by first | exact Or.inr rfl | exact Or.inl rfl)) (pgs_cons (pg_name (i := 6) nd rfl (Or.inl rfl) (by first | exact Or.inr rfl | exact Or.inl rfl)) pgs_nil)))
      (pss_one (forX (ps_for PassesOwn.never rfl (pi_range3 (by rfl) T.n_range (pa_cons (pv 1) (pa_cons (pv 5) (pa_cons (pe_un un_neg pe_int) pa_nil)))) (pg_name (i := 7) nd rfl (Or.inl rfl) (by first | exact Or.inr rfl | exact Or.inl rfl))
      (pss_cons (ps_set (i := 8) nd rfl (Or.inl rfl) (C8.pe_c c_sorted_plan hr (by first | decide | omega) (by rfl) (pa_cons (pv 0) (pa_cons (pe_op op_cat (C8.pe_c c_without hr (by first | decide | omega) (by rfl) (pa_cons (pv 4) (pa_cons (pe_tup (pa_cons (pv 5) (pa_cons (pv 6) pa_nil))) pa_nil))) (pe_lst (pa_cons (pe_tup (pa_cons (pv 7) (pa_cons (pv 6) pa_nil))) pa_nil))) pa_nil))))
      (pss_one (ps_if (PW.pt (pw_and (pt_cmpR (op_notInD (ux hr)) (pe_tup (pa_cons (pv 7) (pa_cons (pv 6) pa_nil))) (pv 4) rfl) (pw_and1 (pt_val (C8.pe_c c_is_enough hr (by first | decide | omega) (by rfl) (pa_cons (pv 0) (pa_cons (pv 8) (pa_cons (pv 3) pa_nil)))))))) (pss_cons (ps_set (i := 4) nd rfl (Or.inl rfl) (pv 8))
      (pss_one ps_break)) pss_nil))))))))
      (pss_one (ps_ret (pv 4)))))), ?_⟩
  walk_at "rd"
  rename_i H1 e1 fa0 hfa0 H2 e2 hfa2 rp hrp H3 e3 hrp3
  have hf3 : H3 fa0 = some (.lst xs) := by walk_at "up"
  have hL : xs.reverse.length = pl.reverse.length := by rw [List.length_reverse, List.length_reverse, lx]
  have h13 : Ex TT H H3 := by walk_at "up"
  have hr3 : Rows H xs.reverse pl.reverse := Paired.rev hx
  refine for_goB (walk_tup (K := K) (a := rp) (xs := xs.reverse)) (fun i σ Hc => ∃ fd ys u5 u6 u7 u8, σ = [some v, some (.int h), some (.ref p), some vq, some (.ref fd), u5, u6, u7, u8] ∧ Ex TT H Hc ∧ Hc rp = some (.tup xs.reverse) ∧ H fd = none ∧ Hc fd = some (.lst ys) ∧ Rows Hc ys ((pl.reverse.take i).foldl (delayStep N h qs) pl) ∧
    ((pl.reverse.take i).foldl (delayStep N h qs) pl).length ≤ pl.length + i ∧ ∀ x ∈ (pl.reverse.take i).foldl (delayStep N h qs) pl, x.2 ∈ N.names) ⟨fa0, xs, _, _, _, _, rfl, h13, hrp3, by walk_at "up", hf3, hx.tu h13.tu, Nat.le_refl _, hpn⟩ (fun i σ Hc hi ⟨_, _, _, _, _, _, _, _, hl, _⟩ => SqT.of hl) ?_ ?_
  · intro i y σ Hc Hc' hi ⟨fd, ys, u5, u6, u7, u8, es, ec, hrp, hfd0, hfd, hys, hlen, hsub⟩ yy
    subst es
    obtain ⟨rfl, hy⟩ := yy
    rw [hL] at hi
    have hi4 : i < pl.length := by rw [List.length_reverse] at hi; exact hi
    obtain ⟨r, hrr⟩ : ∃ b, pl.reverse[i]? = some b := ⟨pl.reverse[i], List.getElem?_eq_getElem _⟩
    obtain ⟨y', hy', hrow⟩ := Paired.at hr3 hrr
    rw [hy'] at hy
    cases hy
    have hrm : r ∈ pl := List.mem_reverse.mp (List.mem_of_getElem? hrr)
    have hrn := hpn r hrm
    have step : (pl.reverse.take (i + 1)).foldl (delayStep N h qs) pl = delayStep N h qs ((pl.reverse.take i).foldl (delayStep N h qs) pl) r := by
      rw [List.take_add_one, hrr, List.foldl_append]
      rfl
    rw [step]
    generalize (pl.reverse.take i).foldl (delayStep N h qs) pl = st at hys hlen hsub step ⊢
    obtain ⟨ta, rfl, hta⟩ := hrow
    have hta' := ec.at hta
    have hr12 := (ao.po.el r hrm)
    have hh1 := ao.h1
    have hrg : RgC h r.1 (-1) (h - r.1).toNat := RgC.neg (by omega) (by omega) (by omega) (by omega)
    have hcr := hcanN _ hrn
    have lD : (latersD h r.1).length = (h - r.1).toNat := by unfold latersD; rw [List.length_map, List.length_range]
    walk_at "rd"
    refine for_goB walk_rangeC (fun j σ Hx => ∃ u7 u8, σ = [some v, some (.int h), some (.ref p), some vq, some (.ref fd), some (.int r.1), some (.str r.2), u7, u8] ∧ Ex TT Hc' Hx ∧ ∀ t ∈ (latersD h r.1).take j, moveOk N qs st r t = false) ⟨u7, u8, rfl, Ex.refl _, fun t ht => by simp at ht⟩ (fun _ _ _ _ _ => trivial) ?_ ?_
    · intro j y σ Hx Hx' hj ⟨u7, u8, es, ex, hno⟩ yy
      subst es
      obtain ⟨rfl, hy⟩ := yy
      obtain ⟨t, ht⟩ : ∃ t : Int, t = h + (j : Nat) * -1 := ⟨_, rfl⟩
      have hy : y = V.int (h + (j : Nat) * -1) := hy
      rw [← ht] at hy
      subst hy
      have htj : (latersD h r.1)[j]? = some t := by
        unfold latersD
        rw [List.getElem?_map, List.getElem?_range hj, ht]
        rfl
      have hfdx : Hx' fd = some (.lst ys) := by walk_at "up"
      have hysx : Rows Hx' ys st := by walk_at "up"
      have hsq : SeqIs Hx' fd ys := .inl hfdx
      have l2k : st.length ≤ 2000 := by omega
      have hcst : ∀ x ∈ st, PyData.canLay0 (.str x.2) = true := fun x hx => hcanN _ (hsub x hx)
      walk_at "rd"
      rename_i q1 hq1 H4 e4 hq1' dd1 ys1 H5 e5 hd1 hd1' hR1 hP1 q2 hq2 H6 e6 hq2' q3 hq3 H7 e7 hq3'
      have ly := Paired.length hR1
      have ly2 := dropR_len st (r.1, r.2)
      have hrw6 : RowAt H7 (V.ref q2) (t, r.2) := RowAt.mk (by walk_at "up")
      have hrw5 : Rows H7 ys1 (dropR st r) := by walk_at "up"
      have hrw : Rows H7 (ys1 ++ [V.ref q2]) (dropR st r ++ [(t, r.2)]) := rows_snoc hrw5 hrw6
      have hln : (dropR st r ++ [(t, r.2)]).length ≤ 2000 := by
        rw [List.length_append, List.length_singleton]
        have := dropR_len st r
        omega
      have hnm : ∀ x ∈ dropR st r ++ [(t, r.2)], x.2 ∈ N.names := by
        intro x hx
        rcases List.mem_append.mp hx with hx | hx
        · exact hsub x (dropR_mem hx)
        · simp at hx
          rw [hx]
          exact hrn
      refine ⟨sz5 (by simp; omega), ?_⟩
      have hml : (sortP N (dropR st r ++ [(t, r.2)])).length ≤ 1000 := by
        rw [sortP_len, List.length_append, List.length_singleton]
        have := dropR_len st r
        omega
      have hmn : ∀ x ∈ sortP N (dropR st r ++ [(t, r.2)]), x.2 ∈ N.names := fun x hx => hnm x (sortP_mem.mp hx)
      have hany : (!(st.map rowD).any fun z => PyData.eqv z (rowD (t, r.2))) = !decide ((t, r.2) ∈ st) := by rw [rows_in]
      have nxt : moveOk N qs st r t = false → ∀ x ∈ (latersD h r.1).take (j + 1), moveOk N qs st r x = false := by
        intro hm x hx
        rw [List.take_add_one, htj] at hx
        simp at hx
        rcases hx with hx | hx
        · exact hno x hx
        · rw [hx]
          exact hm
      walk_at "rd"
      rename_i q8 hq8 H8 e8 hq8' fd2 ys2 H9 e9 hfd2 hfd2' hR2 hP2 q9 hq9 H10 e10 hq9'
      refine ite2 (fun hc => ?_) (fun hc => ?_)
      · have hc1 : decide ((t, r.2) ∈ st) = false := by
          have hc : (!(st.map rowD).any fun z => PyData.eqv z (rowD (t, r.2))) = true := hc
          rw [hany] at hc
          simpa using hc
        walk_at "rd"
        refine ite2 (fun hc2 => ?_) (fun hc2 => ?_)
        · have hmo : moveOk N qs st r t = true := by
            unfold moveOk movedP
            rw [hc1, hc2]
            rfl
          have e0 : delayStep N h qs st r = movedP N st r t := by
            unfold delayStep
            rw [find_first htj hmo hno]
          walk_at "rd"
          refine ⟨⟨fd2, ys2, _, _, _, _, rfl, by walk_at "up", by walk_at "up", by walk_at "up", by walk_at "up", ?_, ?_, ?_⟩⟩
          · rw [e0]
            show Rows _ _ (sortP N (dropR st r ++ [(t, r.2)]))
            walk_at "up"
          · rw [e0]
            have := @moved_len N st r t
            omega
          · rw [e0]
            exact hmn
        · have hmo : moveOk N qs st r t = false := by
            unfold moveOk movedP
            rw [hc1, show N.enough (sortP N (dropR st r ++ [(t, r.2)])) qs = false by simpa using hc2]
            rfl
          walk_at "rd"
          exact ⟨⟨_, _, rfl, by walk_at "up", nxt hmo⟩⟩
      · have hc1 : decide ((t, r.2) ∈ st) = true := by
          have hc : ¬ (!(st.map rowD).any fun z => PyData.eqv z (rowD (t, r.2))) = true := hc
          rw [hany] at hc
          simpa using hc
        have hmo : moveOk N qs st r t = false := by
          unfold moveOk
          rw [hc1]
          rfl
        walk_at "rd"
        exact ⟨⟨_, _, rfl, by walk_at "up", nxt hmo⟩⟩
    · rintro σ Hx ⟨u7, u8, rfl, ex, hno⟩
      rw [← lD, List.take_length] at hno
      have e0 : delayStep N h qs st r = st := by
        unfold delayStep
        rw [List.find?_eq_none.mpr fun x hx => by rw [hno x hx]; exact Bool.false_ne_true]
      refine ⟨⟨fd, ys, _, _, _, _, rfl, by walk_at "up", by walk_at "up", hfd0, by walk_at "up", ?_, ?_, ?_⟩⟩
      · rw [e0]
        walk_at "up"
      · rw [e0]
        omega
      · rw [e0]
        exact hsub
  · rintro σ Hc ⟨fd, ys, u5, u6, u7, u8, rfl, ec, hrp, hfd0, hfd, hys, hlen, hsub⟩
    rw [hL, List.take_length] at hys
    walk_at "rd"
    exact k _ ys _ ec hfd0 hfd hys
end
end Rf
end

set_option Elab.async false
set_option linter.all false
set_option maxRecDepth 100000
set_option maxHeartbeats 4000000
set_option pp.maxSteps 1500
section
open PySem PySem.Spec PyProof.Rows L2 Rf
local macro_rules | `(tactic| walk_at "up") => `(tactic| first | assumption | exact Ex.refl _ | exact upd_same | (apply upd_at; (focus assumption); walk_at "up") | (apply upd_at'; (focus assumption); walk_at "up") | (apply Ex.mutL; (focus (walk_at "up")); (focus (walk_at "up")); walk_at "up") | (apply Ex.mutD; (focus (walk_at "up")); (focus (walk_at "up")); walk_at "up") | (apply Ex.free'; (focus assumption); walk_at "up") | (apply Ex.atT; (focus assumption); walk_at "up") | (apply Ex.atL; (focus assumption); walk_at "up") | (apply Ex.atD; (focus assumption); walk_at "up") | (apply Ex.atI; (focus assumption); walk_at "up") | (apply Ex.atF; (focus assumption); walk_at "up") | (apply Ex.then'; (focus assumption); walk_at "up") | (apply NetAt.ex; (focus assumption); walk_at "up") | (apply PartsAt.ex; (focus assumption); walk_at "up") | (apply PlanAt.ex; (focus assumption); walk_at "up") | (apply QrsAt.ex; (focus assumption); walk_at "up") | (apply SrcD.ex; (focus assumption); walk_at "up") | (apply VwD.ex; (focus assumption); walk_at "up") | (apply SeqIs.ex; (focus assumption); walk_at "up") | (apply NetAt.ex'; (focus assumption); walk_at "up") | (apply PartsAt.ex'; (focus assumption); walk_at "up") | (apply PlanAt.ex'; (focus assumption); walk_at "up") | (apply QrsAt.ex'; (focus assumption); walk_at "up") | (apply SrcD.ex'; (focus assumption); walk_at "up") | (apply VwD.ex'; (focus assumption); walk_at "up") | (apply SeqIs.ex'; (focus assumption); walk_at "up") | (apply Ex.atT'; (focus assumption); walk_at "up") | (apply Ex.atL'; (focus assumption); walk_at "up") | (apply Ex.atD'; (focus assumption); walk_at "up") | (apply Ex.atI'; (focus assumption); walk_at "up") | (with_reducible apply FrmAt.ex'; (focus assumption); walk_at "up") | (with_reducible apply VwAt.ex'; (focus assumption); walk_at "up") | (with_reducible apply RowAt.ex'; (focus assumption); walk_at "up") | (with_reducible apply SrcAt.ex'; (focus assumption); walk_at "up") | (with_reducible apply QryAt.ex'; (focus assumption); walk_at "up") | (with_reducible apply Rows.ex'; (focus assumption); walk_at "up") | (with_reducible apply StAt.exE; (focus assumption); walk_at "up") | (with_reducible apply sqU; (focus assumption); assumption) | (with_reducible apply sqE; (focus assumption); walk_at "up") | (with_reducible apply sqM; (focus assumption); (focus (walk_at "ne")); walk_at "up") | (with_reducible apply Ex.tabs'; (focus assumption); walk_at "up") | (with_reducible apply Ex.thenM; (focus assumption); (focus (walk_at "up")); walk_at "up") | (with_reducible apply Ex.thenMM; (focus assumption); walk_at "up") | (with_reducible apply atML; (focus assumption); (focus (walk_at "ne")); walk_at "up") | (with_reducible apply atMD; (focus assumption); (focus (walk_at "ne")); walk_at "up") | (with_reducible apply atMT; (focus assumption); (focus (walk_at "ne")); walk_at "up"))
local macro_rules | `(tactic| walk_at "ne") => `(tactic| first | assumption | (apply ne_st; (focus assumption); (walk_at "up")))
local macro_rules | `(tactic| walk_at "sv") => `(tactic| first | rfl | assumption | exact Ex.refl _ | exact ClsV.ty _ | (apply TyX.base; first | exact TyOf.int _ | exact TyOf.str _ | exact TyOf.bl _ | (apply TyOf.tup; walk_at "up") | (apply TyOf.lst; walk_at "up") | (apply TyOf.dK; walk_at "up")) | exact kit_ty (by decide +kernel) | (apply Rd.of; walk_at "up") | (apply DGet_some; (focus (walk_at "up")); assumption) | (apply DGet_f; (focus (walk_at "up")); assumption) | (apply DGet_s; walk_at "up") | (apply DPut_s; (focus (walk_at "up")); omega) | (apply sz5; simp only [List.length_map, List.length_append, List.length_cons, List.length_nil]; omega) | (apply sz4; simp only [List.length_map, List.length_append, List.length_cons, List.length_nil]; omega) | (apply SqL.of; walk_at "up") | (apply SqT.of; walk_at "up") | (apply Or.inl; apply SqL.of; walk_at "up") | (apply Or.inr; apply SqT.of; walk_at "up") | (apply Exists.intro; first | (apply SqL.of; walk_at "up") | (apply SqT.of; walk_at "up")) | exact flatStrs _ | (apply dp_nil; walk_at "up") | (apply dp_strs; walk_at "up") | (apply dp_ints; walk_at "up") | (apply dp_row; walk_at "up") | (apply dp_rowL; walk_at "up") | (apply dp_rows; (focus (walk_at "up")); walk_at "up") | exact shaped_nil | exact shaped_ints | (apply shaped_strs; assumption) | (apply shaped_rows; assumption) | (apply shaped_row; assumption) | (with_reducible apply RowAt.mk; walk_at "up") | (apply tyL; walk_at "up") | (apply tyD; walk_at "up") | (with_reducible apply cmul_r; constructor <;> omega) | (with_reducible apply cmul_l; constructor <;> omega) | (with_reducible apply cdiv_i; constructor <;> omega) | walk_at "up" | (with_reducible apply ne_st; (focus assumption); walk_at "up") | omega | (dsimp only; omega) | decide | (simp only [List.length_map, List.length_append, List.length_cons, List.length_nil]; omega))
local macro_rules | `(tactic| walk_at "cn") => `(tactic| first | assumption | omega | (dsimp only; omega) | (simp only [List.length_map, List.length_append, List.length_cons, List.length_nil, List.length_reverse]; omega) | decide)
local macro_rules | `(tactic| walk_at "rd") => `(tactic| first
  | (with_reducible show LcGo _ _ _ _ _ _ _ _)
  | (with_reducible show DcGo _ _ _ _ _ _ _ _ _)
  | (with_reducible show ForGo _ _ _ _ _ _)
  | (refine allocI (fun p hp => ?_); generalize hh : upd _ _ _ = H2; have e := exNew (T := ‹Tb›) hh hp; have h := updAt hh; clear hh; walk_at "rd")
  | (apply And.intro; (focus (walk_at "sv")); walk_at "rd")
  | (apply Exists.intro; walk_at "rd")
  | (refine iteY ?_ ?_; (focus (walk_at "cn")); walk_at "rd")
  | (refine iteN ?_ ?_; (focus (walk_at "cn")); walk_at "rd")
  | (refine iteY' ?_ ?_; (focus (walk_at "cn")); walk_at "rd")
  | (refine iteN' ?_ ?_; (focus (walk_at "cn")); walk_at "rd")
  | (refine iteBt ?_ ?_; (focus (first | assumption | decide +kernel)); walk_at "rd")
  | (refine iteBf ?_ ?_; (focus (first | assumption | decide +kernel)); walk_at "rd")
  | (intro _; walk_at "rd") | skip)
namespace Rf
section
variable {P : Program} {w : World} {K : PySem.W.Frag} {mg : Str → Option Value} {base : Heap} {C : Addr} (TT : Tb)
def sp_l_inputs : Sp := fun vs H Q _ => ∃ v N n, vs = [v, .str n] ∧ PartsAt H v N ∧ NetOk N ∧ ∀ d H', Ex TT H H' → H d = none → H' d = some (.lst ((N.inputs n).map V.str)) → Q (.ref d) H'
theorem cal_l_inputs (T : Tx K mg C) (D : DefB K mg "_law_inputs" s_l_inputs ["_law_parts", "_law_name"]) : C8.Cal P w K mg base 1 "_law_inputs" (sp_l_inputs TT) [] := by
  refine cal_of D sc_l_inputs (fun vs H Q E h => by obtain ⟨_, _, _, rfl, _⟩ := h; rfl) (fun fa cdv A outer s H vs Q E hr h => ?_)
  obtain ⟨v, N, n, rfl, ⟨p, d1, d2, rfl, hp, ⟨k1, e1, g1⟩, ⟨k2, e2, g2⟩⟩, ok, k⟩ := h
  have nd := sc_l_inputs.nd
  have hu := hu_of hr
  refine ⟨_, (pss_cons (ps_if (pt_cmp (pc_dnotin hu (pv 1) (pe_ix ix_tup (pv 0) pe_int (fun _ _ => rfl)))) (pss_one (ps_ret (pe_lst pa_nil))) pss_nil)
      (pss_cons (ps_asg (pe_ix ix_tup (pe_dget hu (pe_ix ix_tup (pv 0) pe_int (fun _ _ => rfl)) (pv 1) (fun _ _ => rfl)) pe_int (fun _ _ => rfl)) (pg_tup rfl (pgs_cons (pg_name (i := 2) nd rfl (Or.inl rfl) (by first | exact Or.inr rfl | exact Or.inl rfl)) (pgs_cons (pg_name (i := 3) nd rfl (Or.inl rfl) (by first | exact Or.inr rfl | exact Or.inl rfl)) pgs_nil))))
      (pss_one (ps_ret (pe_ifExp (pt_cmpR op_eq (pv 2) pe_str (nomark _)) (lcX (pe_lc (g := (gName 4)) rfl nd (pi_tup (pv 3)) (blkOk_by (own := [("_law_one", 4)]) (N := N_l_inputs) (sc := C8.fnScope s_l_inputs) (by decide +kernel)) (fun _ _ _ _ _ => (pg_name (i := 4) nd rfl (Or.inl rfl) (by first | exact Or.inr rfl | exact Or.inl rfl))) (fun _ _ _ _ _ => pts_nil) (fun _ _ _ _ _ => (pe_ix (ix_tupK (K := K)) (pv 4) pe_int (fun _ _ => rfl))))) (pe_callTy call_list_of (by rfl) T.n_list (by decide +kernel) (pa_cons (pv 3) pa_nil))))))), ?_⟩
  cases e : look N.vws n with
  | none =>
    have h0 : (!(valV k2 (Sum.inr n)).isSome) = true := by rw [g2.isSome, e] <;> rfl
    walk_at "rd"
    refine k _ _ (by walk_at "up") (by walk_at "up") ?_
    rw [show N.inputs n = [] from by unfold Net.inputs; rw [e]]
    assumption
  | some f =>
    have h0 : (!(valV k2 (Sum.inr n)).isSome) = false := by rw [g2.isSome, e] <;> rfl
    obtain ⟨u, hu1, hu2⟩ := g2.yes e
    obtain ⟨q, x, rfl, hq, ⟨q2, x2, rfl, hq2, ⟨q3, xs, rfl, hq3, hx⟩⟩⟩ := hu2
    have hz := (ok.vo.fr _ (look_mem e)).hi
    have hi : N.inputs n = f.1.names := by unfold Net.inputs; rw [e]
    rw [hi] at k
    rcases hx with ⟨hw, hx⟩ | ⟨hw, hx⟩
    · have hw' : V.str f.1.word = V.str "sum" := by rw [hw]
      walk_at "rd"
      refine lc_tupP (T := TT) f.1.ins (RowAt H) hq3 hx (by have hz : f.1.ins.length ≤ 4 := hz; omega) (fun _ => true) (fun _ y t => y = V.str t.2) (fun _ _ _ _ _ h => h) ?_ ?_
      · intro t x Hc K1 K0 hm ⟨r, er, hr⟩ e k1 k0
        subst er
        walk_at "rd"
        exact k1 rfl _ _ (Ex.refl _) rfl
      · intro Dl ys H2 hD e hd qq
        rw [filt_true] at qq
        have eq : ys = f.1.names.map V.str := by
          rw [Paired.fn (f := fun t : Int × Str => V.str t.2) qq]
          unfold Frm.names
          rw [List.map_map]
          rfl
        subst eq
        exact k _ _ e hD hd
    · have hw' : ¬ V.str f.1.word = V.str "sum" := fun z => hw (V.str.inj z)
      subst hx
      walk_at "rd"
      exact k _ _ ‹_› ‹_› ‹_›
def sp_l_under (d : Nat) : Sp := fun vs H Q _ => ∃ v N n, vs = [v, .str n] ∧ PartsAt H v N ∧ NetOk N ∧ N.idx n < d ∧ ∀ d H', Ex TT H H' → H d = none → H' d = some (.lst ((N.under n).map V.str)) → Q (.ref d) H'
theorem cal_l_under (T : Tx K mg C) (D : DefB K mg "_law_under" s_l_under ["_law_parts", "_law_name"]) (c_l_inputs : C8.Cal P w K mg base 1 "_law_inputs" (sp_l_inputs TT) []) : ∀ dep : Nat, C8.Cal P w K mg base (dep + 3) "_law_under" (sp_l_under TT dep) []
  | 0 => cal_of D sc_l_under (fun vs H Q E h => by obtain ⟨_, _, _, rfl, _⟩ := h; rfl) (fun fa cdv A outer s H vs Q E hr h => by obtain ⟨_, _, _, _, _, _, h, _⟩ := h; omega)
  | dep + 1 => by
    have c_l_under := cal_l_under T D c_l_inputs dep
    refine cal_of D sc_l_under (fun vs H Q E h => by obtain ⟨_, _, _, rfl, _⟩ := h; rfl) (fun fa cdv A outer s H vs Q E hr h => ?_)
    obtain ⟨v, N, n, rfl, hP, ok, hd, k⟩ := h
    have nd := sc_l_under.nd
    have hu := hu_of hr
    have lu := under_len ok n
    refine ⟨_, (pss_cons (ps_set (i := 2) nd rfl (Or.inl rfl) (pe_lst (pa_cons (pv 1) pa_nil)))
        (pss_cons (forX (ps_for PassesOwn.never rfl (pi_list (C8.pe_c c_l_inputs hr (by first | decide | omega) (by rfl) (pa_cons (pv 0) (pa_cons (pv 1) pa_nil)))) (pg_name (i := 3) nd rfl (Or.inl rfl) (by first | exact Or.inr rfl | exact Or.inl rfl))
        (pss_one (ps_set (i := 2) nd rfl (Or.inl rfl) (pe_op op_cat (pv 2) (C8.pe_c c_l_under hr (by first | decide | omega) (by rfl) (pa_cons (pv 0) (pa_cons (pv 3) pa_nil))))))))
        (pss_one (ps_ret (pv 2))))), ?_⟩
    walk_at "rd"
    rename_i fd0 hfd0 H1 e1 hfd1 la H2 e2 hla hla2
    have hL : ((N.inputs n).map V.str).length = (N.inputs n).length := List.length_map _
    refine for_goB (walk_list (K := K) (a := la) (xs := (N.inputs n).map V.str)) (fun i σ Hc => ∃ fd u, σ = [some v, some (.str n), some (.ref fd), u] ∧ Ex TT H Hc ∧ H fd = none ∧ Hc la = some (.lst ((N.inputs n).map V.str)) ∧ Hc fd = some (.lst ((n :: ((N.inputs n).take i).flatMap N.under).map V.str))) ⟨fd0, none, rfl, by walk_at "up", hfd0, hla2, by walk_at "up"⟩ (fun i σ Hc hi ⟨_, _, _, _, _, hl, _⟩ => SqL.of hl) ?_ ?_
    · intro i y σ Hc Hc' hi ⟨fd, u, es, ec, hfn, hl, hf⟩ yy
      subst es
      obtain ⟨rfl, hy⟩ := yy
      rw [hL] at hi
      obtain ⟨t, ht⟩ : ∃ b, (N.inputs n)[i]? = some b := ⟨(N.inputs n)[i], List.getElem?_eq_getElem _⟩
      rw [List.getElem?_map, ht] at hy
      cases hy
      have htm := List.mem_of_getElem? ht
      have hto := (ok.order htm).1
      have hdt : N.idx t < dep := by omega
      have eT : ((N.inputs n).take (i + 1)).flatMap N.under = ((N.inputs n).take i).flatMap N.under ++ N.under t := by
        rw [List.take_add_one, ht, List.flatMap_append]
        simp
      have lT : (n :: ((N.inputs n).take i).flatMap N.under).length + (N.under t).length ≤ 4000 := by
        have e3 : (N.under n).length = (n :: ((N.inputs n).take (i + 1)).flatMap N.under).length + (((N.inputs n).drop (i + 1)).flatMap N.under).length := by
          rw [under_eq ok]
          conv => lhs; rw [← List.take_append_drop (i + 1) (N.inputs n), List.flatMap_append]
          simp
          omega
        rw [eT] at e3
        simp at e3 ⊢
        omega
      walk_at "rd"
      rename_i ld H3 e3 hld hld'
      refine ⟨sz5 (by rw [List.length_map, List.length_map]; omega), ?_⟩
      walk_at "rd"
      rename_i fd' hfd' H4 e4 hf4
      have eF : (n :: ((N.inputs n).take i).flatMap N.under).map V.str ++ (N.under t).map V.str = (n :: ((N.inputs n).take (i + 1)).flatMap N.under).map V.str := by
        rw [eT, ← List.map_append]
        rfl
      rw [eF] at hf4
      exact ⟨⟨fd', _, rfl, by walk_at "up", by walk_at "up", by walk_at "up", hf4⟩⟩
    · rintro σ Hc ⟨fd, u, rfl, ec, hfn, hl, hf⟩
      rw [hL, List.take_length, ← under_eq ok] at hf
      walk_at "rd"
      exact k _ _ ec hfn hf
end
end Rf
end

set_option Elab.async false
set_option linter.all false
set_option maxRecDepth 100000
set_option maxHeartbeats 4000000
set_option pp.maxSteps 1500
section
open PySem PySem.Spec PyProof.Rows L2 Rf
local macro_rules | `(tactic| walk_at "up") => `(tactic| first | assumption | exact Ex.refl _ | exact upd_same | (apply upd_at; (focus assumption); walk_at "up") | (apply upd_at'; (focus assumption); walk_at "up") | (apply Ex.mutL; (focus (walk_at "up")); (focus (walk_at "up")); walk_at "up") | (apply Ex.mutD; (focus (walk_at "up")); (focus (walk_at "up")); walk_at "up") | (apply Ex.free'; (focus assumption); walk_at "up") | (apply Ex.atT; (focus assumption); walk_at "up") | (apply Ex.atL; (focus assumption); walk_at "up") | (apply Ex.atD; (focus assumption); walk_at "up") | (apply Ex.atI; (focus assumption); walk_at "up") | (apply Ex.atF; (focus assumption); walk_at "up") | (apply Ex.then'; (focus assumption); walk_at "up") | (apply NetAt.ex; (focus assumption); walk_at "up") | (apply PartsAt.ex; (focus assumption); walk_at "up") | (apply PlanAt.ex; (focus assumption); walk_at "up") | (apply QrsAt.ex; (focus assumption); walk_at "up") | (apply SrcD.ex; (focus assumption); walk_at "up") | (apply VwD.ex; (focus assumption); walk_at "up") | (apply SeqIs.ex; (focus assumption); walk_at "up") | (apply NetAt.ex'; (focus assumption); walk_at "up") | (apply PartsAt.ex'; (focus assumption); walk_at "up") | (apply PlanAt.ex'; (focus assumption); walk_at "up") | (apply QrsAt.ex'; (focus assumption); walk_at "up") | (apply SrcD.ex'; (focus assumption); walk_at "up") | (apply VwD.ex'; (focus assumption); walk_at "up") | (apply SeqIs.ex'; (focus assumption); walk_at "up") | (apply Ex.atT'; (focus assumption); walk_at "up") | (apply Ex.atL'; (focus assumption); walk_at "up") | (apply Ex.atD'; (focus assumption); walk_at "up") | (apply Ex.atI'; (focus assumption); walk_at "up") | (with_reducible apply FrmAt.ex'; (focus assumption); walk_at "up") | (with_reducible apply VwAt.ex'; (focus assumption); walk_at "up") | (with_reducible apply RowAt.ex'; (focus assumption); walk_at "up") | (with_reducible apply SrcAt.ex'; (focus assumption); walk_at "up") | (with_reducible apply QryAt.ex'; (focus assumption); walk_at "up") | (with_reducible apply Rows.ex'; (focus assumption); walk_at "up") | (with_reducible apply StAt.exE; (focus assumption); walk_at "up") | (with_reducible apply sqU; (focus assumption); assumption) | (with_reducible apply sqE; (focus assumption); walk_at "up") | (with_reducible apply sqM; (focus assumption); (focus (walk_at "ne")); walk_at "up") | (with_reducible apply Ex.tabs'; (focus assumption); walk_at "up") | (with_reducible apply Ex.thenM; (focus assumption); (focus (walk_at "up")); walk_at "up") | (with_reducible apply Ex.thenMM; (focus assumption); walk_at "up") | (with_reducible apply atML; (focus assumption); (focus (walk_at "ne")); walk_at "up") | (with_reducible apply atMD; (focus assumption); (focus (walk_at "ne")); walk_at "up") | (with_reducible apply atMT; (focus assumption); (focus (walk_at "ne")); walk_at "up"))
local macro_rules | `(tactic| walk_at "ne") => `(tactic| first | assumption | (apply ne_st; (focus assumption); (walk_at "up")))
local macro_rules | `(tactic| walk_at "sv") => `(tactic| first | rfl | assumption | exact Ex.refl _ | exact ClsV.ty _ | (apply TyX.base; first | exact TyOf.int _ | exact TyOf.str _ | exact TyOf.bl _ | (apply TyOf.tup; walk_at "up") | (apply TyOf.lst; walk_at "up") | (apply TyOf.dK; walk_at "up")) | exact kit_ty (by decide +kernel) | (apply Rd.of; walk_at "up") | (apply DGet_some; (focus (walk_at "up")); assumption) | (apply DGet_f; (focus (walk_at "up")); assumption) | (apply DGet_s; walk_at "up") | (apply DPut_s; (focus (walk_at "up")); omega) | (apply sz5; simp only [List.length_map, List.length_append, List.length_cons, List.length_nil]; omega) | (apply sz4; simp only [List.length_map, List.length_append, List.length_cons, List.length_nil]; omega) | (apply SqL.of; walk_at "up") | (apply SqT.of; walk_at "up") | (apply Or.inl; apply SqL.of; walk_at "up") | (apply Or.inr; apply SqT.of; walk_at "up") | (apply Exists.intro; first | (apply SqL.of; walk_at "up") | (apply SqT.of; walk_at "up")) | exact flatStrs _ | (apply dp_nil; walk_at "up") | (apply dp_strs; walk_at "up") | (apply dp_ints; walk_at "up") | (apply dp_row; walk_at "up") | (apply dp_rowL; walk_at "up") | (apply dp_rows; (focus (walk_at "up")); walk_at "up") | exact shaped_nil | exact shaped_ints | (apply shaped_strs; assumption) | (apply shaped_rows; assumption) | (apply shaped_row; assumption) | (with_reducible apply RowAt.mk; walk_at "up") | (apply tyL; walk_at "up") | (apply tyD; walk_at "up") | (with_reducible apply cmul_r; constructor <;> omega) | (with_reducible apply cmul_l; constructor <;> omega) | (with_reducible apply cdiv_i; constructor <;> omega) | walk_at "up" | (with_reducible apply ne_st; (focus assumption); walk_at "up") | omega | (dsimp only; omega) | decide | (simp only [List.length_map, List.length_append, List.length_cons, List.length_nil]; omega))
local macro_rules | `(tactic| walk_at "cn") => `(tactic| first | assumption | omega | (dsimp only; omega) | (simp only [List.length_map, List.length_append, List.length_cons, List.length_nil, List.length_reverse]; omega) | decide)
local macro_rules | `(tactic| walk_at "rd") => `(tactic| first
  | (with_reducible show LcGo _ _ _ _ _ _ _ _)
  | (with_reducible show DcGo _ _ _ _ _ _ _ _ _)
  | (with_reducible show ForGo _ _ _ _ _ _)
  | (refine allocI (fun p hp => ?_); generalize hh : upd _ _ _ = H2; have e := exNew (T := ‹Tb›) hh hp; have h := updAt hh; clear hh; walk_at "rd")
  | (apply And.intro; (focus (walk_at "sv")); walk_at "rd")
  | (apply Exists.intro; walk_at "rd")
  | (refine iteY ?_ ?_; (focus (walk_at "cn")); walk_at "rd")
  | (refine iteN ?_ ?_; (focus (walk_at "cn")); walk_at "rd")
  | (refine iteY' ?_ ?_; (focus (walk_at "cn")); walk_at "rd")
  | (refine iteN' ?_ ?_; (focus (walk_at "cn")); walk_at "rd")
  | (refine iteBt ?_ ?_; (focus (first | assumption | decide +kernel)); walk_at "rd")
  | (refine iteBf ?_ ?_; (focus (first | assumption | decide +kernel)); walk_at "rd")
  | (intro _; walk_at "rd") | skip)
namespace Rf
section
variable {P : Program} {w : World} {K : PySem.W.Frag} {mg : Str → Option Value} {base : Heap} {C : Addr} (TT : Tb)
/-- pairs of a text and an int -/
def PairI (g : Str → Int) (H : Hp) (y : V) (x : Str) : Prop := ∃ t, y = .ref t ∧ H t = some (.tup [.str x, .int (g x)])
def kvI (g : Str → Int) (l : List Str) : Kvs := l.map fun x => (Sum.inr x, .int (g x))
theorem pairs_refs {g : Str → Int} {H : Hp} : ∀ {ys : List V} {l : List Str}, Paired (PairI g H) ys l → ∃ ps : List Addr, ys = ps.map V.ref ∧ Paired (fun p kv => SqT K H p [kV kv.1, kv.2]) ps (kvI g l)
  | _, _, .nil => ⟨[], rfl, .nil⟩
  | _, _, .cons (a := y) (b := x) a r => by
    obtain ⟨t, rfl, ht⟩ := a
    obtain ⟨ps, rfl, hp⟩ := pairs_refs r
    exact ⟨t :: ps, rfl, .cons (SqT.of ht) hp⟩
theorem kvI_stamp (g : Str → Int) : ∀ {l : List Str} {k0 : Kvs} {f : Stamp} {b : Nat}, StampK k0 f b → StampK (mergeK k0 (kvI g l)) (fun x => if x ∈ l then some (g x) else f x) (b + l.length)
  | [], k0, f, b, h => by
    have : (fun x => if x ∈ ([] : List Str) then some (g x) else f x) = f := by funext x; simp
    rw [this]
    exact h
  | y :: l, k0, f, b, h => by
    have := kvI_stamp g (l := l) (h.put y (g y))
    have e : (fun x => if x ∈ l then some (g x) else putS f y (g y) x) = fun x => if x ∈ y :: l then some (g x) else f x := by
      funext x
      unfold putS
      by_cases h1 : x ∈ l
      · rw [if_pos h1, if_pos (List.mem_cons_of_mem _ h1)]
      · rw [if_neg h1]
        by_cases h2 : x = y
        · subst h2
          rw [if_pos rfl, if_pos List.mem_cons_self]
        · rw [if_neg h2, if_neg (by simp [h1, h2])]
    rw [e] at this
    exact this.le (by rw [List.length_cons]; omega)
theorem kvI_new (g : Str → Int) (l : List Str) : StampK (mergeK [] (kvI g l)) (fun x => if x ∈ l then some (g x) else none) l.length := by
  have := kvI_stamp g (l := l) StampK.nil
  rw [Nat.zero_add] at this
  exact this
theorem PairI.tu {g : Str → Int} {y : V} {x : Str} {Ha Hb : Hp} (t : Tu Ha Hb) (h : PairI g Ha y x) : PairI g Hb y x := let ⟨a, b, c⟩ := h; ⟨a, b, t _ _ c⟩
theorem stamp0_law {N : Net} {n : Str} : (fun x => if x ∈ (N.under n).filter (fun x => N.isSrc x) then some (0 : Int) else none) = N.stamp0 n := by
  funext x
  unfold Net.stamp0
  by_cases h : x ∈ N.under n ∧ N.isSrc x = true
  · rw [if_pos h, if_pos (List.mem_filter.mpr h)]
  · rw [if_neg h, if_neg (fun z => h (List.mem_filter.mp z))]
theorem ages_of_filter {N : Net} {pl : Plan} {q : Query} : (fun x => if x ∈ (N.src.map (·.1)).filter (fun x => ((N.stamps pl q.1 q.2.1) x).isSome) then some (q.1 - ((N.stamps pl q.1 q.2.1) x).getD 0) else none) = N.ages pl q := by
  funext x
  unfold Net.ages
  have hmf : x ∈ (N.src.map (·.1)).filter (fun x => ((N.stamps pl q.1 q.2.1) x).isSome) ↔ N.isSrc x = true ∧ ((N.stamps pl q.1 q.2.1) x).isSome = true := by
    rw [List.mem_filter]
    exact and_congr_left' look_isSome.symm
  by_cases hm : x ∈ (N.src.map (·.1)).filter (fun x => ((N.stamps pl q.1 q.2.1) x).isSome)
  · obtain ⟨a, b⟩ := hmf.mp hm
    rw [if_pos hm, if_pos a]
    obtain ⟨i, hi⟩ := Option.isSome_iff_exists.mp b
    rw [hi]
    rfl
  · rw [if_neg hm]
    by_cases hs : N.isSrc x = true
    · rw [if_pos hs]
      cases hi : (N.stamps pl q.1 q.2.1) x with
      | none => rfl
      | some i => exact absurd (hmf.mpr ⟨hs, by rw [hi]; rfl⟩) hm
    · rw [if_neg hs]
def sp_l_ages : Sp := fun vs H Q _ => ∃ v N p xs pl qv q, vs = [v, .ref p, qv] ∧ PartsAt H v N ∧ NetOk N ∧ H p = some (.lst xs) ∧ Rows H xs pl ∧ pl.length ≤ 1000 ∧ (∀ r ∈ pl, r.2 ∈ N.names) ∧ QryAt H qv q ∧ q.2.1 ∈ N.names ∧
  ∀ d kvs H', Ex TT H H' → H d = none → H' d = some (.dK kvs) → StampK kvs (N.ages pl q) 5 → Q (.ref d) H'
theorem cal_l_ages (T : Tx K mg C) (D : DefB K mg "_law_ages" s_l_ages ["_law_parts", "_law_plan_here", "_law_query_here"]) (c_l_inputs : C8.Cal P w K mg base 1 "_law_inputs" (sp_l_inputs TT) []) (c_l_under : C8.Cal P w K mg base 8 "_law_under" (sp_l_under TT 5) []) : C8.Cal P w K mg base 9 "_law_ages" (sp_l_ages TT) [] := by
  refine cal_of D sc_l_ages (fun vs H Q E h => by obtain ⟨_, _, _, _, _, _, _, rfl, _⟩ := h; rfl) (fun fa cdv A outer s H vs Q E hr h => ?_)
  obtain ⟨v, N, pp, xs, pl, vq, q, rfl, ⟨p, d1, d2, rfl, hp, ⟨k1, e1, g1⟩, ⟨k2, e2, g2⟩⟩, ok, hpp, hx, lp, hpn, ⟨qa, rfl, hqa⟩, hqm, k⟩ := h
  have nd := sc_l_ages.nd
  have hu := hu_of hr
  have lx := Paired.length hx
  have ln := ok.len
  have lk1 := g1.len
  have lk2 := g2.len
  have ls := ok.s5
  have hP : PartsAt H (.ref p) N := ⟨p, d1, d2, rfl, hp, ⟨k1, e1, g1⟩, ⟨k2, e2, g2⟩⟩
  refine ⟨_, (pss_cons (ps_set (i := 3) nd rfl (Or.inr rfl) pe_dnewK)
      (pss_cons (forX (ps_for PassesOwn.never rfl (pi_list (pe_op op_cat (pe_callTy (call_listD rfl) (by rfl) T.n_list (by decide +kernel) (pa_cons (pe_ix ix_tup (pv 0) pe_int (fun _ _ => rfl)) pa_nil)) (pe_callTy (call_listD rfl) (by rfl) T.n_list (by decide +kernel) (pa_cons (pe_ix ix_tup (pv 0) pe_int (fun _ _ => rfl)) pa_nil)))) (pg_name (i := 4) nd rfl (Or.inl rfl) (by first | exact Or.inr rfl | exact Or.inl rfl))
      (pss_one (ps_dput hu (pv 3) (pv 4) (pe_callTy (call_dictP rfl) (by rfl) T.n_dict (by decide +kernel) (pa_cons (lcX (pe_lc (g := (gName 7)) rfl nd (pi_list (C8.pe_c c_l_under hr (by first | decide | omega) (by rfl) (pa_cons (pv 0) (pa_cons (pv 4) pa_nil)))) (blkOk_by (own := [("_law_one", 7)]) (N := N_l_ages) (sc := C8.fnScope s_l_ages) (by decide +kernel)) (fun _ _ _ _ _ => (pg_name (i := 7) nd rfl (Or.inl rfl) (by first | exact Or.inr rfl | exact Or.inl rfl))) (fun _ _ _ _ _ => pts_one (pt_cmp (pc_din hu (pv 7) (pe_ix (ix_tupK (K := K)) (pv 0) pe_int (fun _ _ => rfl))))) (fun _ _ _ _ _ => (pe_tup (pa_cons (pv 7) (pa_cons pe_int pa_nil)))))) pa_nil)) rfl))))
      (pss_cons (forX (ps_for PassesOwn.never rfl (pi_list (pv 1)) (pg_tup rfl (pgs_cons (pg_name (i := 5) nd rfl (Or.inl rfl) (by first | exact Or.inr rfl | exact Or.inl rfl)) (pgs_cons (pg_name (i := 4) nd rfl (Or.inl rfl) (by first | exact Or.inr rfl | exact Or.inl rfl)) pgs_nil)))
      (pss_one (ps_if (PW.pt (pw_and (pt_cmpR op_le (pv 5) (pe_ix ix_tup (pv 2) pe_int (fun _ _ => rfl)) (nomark _)) (pw_and1 (pt_cmp (pc_din hu (pv 4) (pe_ix ix_tup (pv 0) pe_int (fun _ _ => rfl))))))) (pss_one (ps_dput hu (pv 3) (pv 4) (pe_disp (pps_cons (pv 4) (pv 5) pps_nil) (by rfl) (by rfl) (fun z => by cases z) (by decide)) rfl)) (pss_one (ps_if (pt_cmpR op_le (pv 5) (pe_ix ix_tup (pv 2) pe_int (fun _ _ => rfl)) (nomark _)) (pss_cons (ps_set (i := 6) nd rfl (Or.inl rfl) pe_dnewK)
      (pss_cons (forX (ps_for PassesOwn.never rfl (pi_list (C8.pe_c c_l_inputs hr (by first | decide | omega) (by rfl) (pa_cons (pv 0) (pa_cons (pv 4) pa_nil)))) (pg_name (i := 7) nd rfl (Or.inl rfl) (by first | exact Or.inr rfl | exact Or.inl rfl))
      (pss_one (ps_expr (pe_bm PySem.F.plainAttrs_dict PySem.F.slot_dict_update PySem.F.type_dict_update mt_update (pv 6) (pa_cons (pe_dget hu (pv 3) (pv 7) (fun _ _ => rfl)) pa_nil))))))
      (pss_one (ps_dput hu (pv 3) (pv 4) (pv 6) rfl)))) pss_nil))))))
      (pss_one (ps_ret (pe_callTy (call_dictP rfl) (by rfl) T.n_dict (by decide +kernel) (pa_cons (lkE (lcX (pe_lc (g := (gName 4)) rfl nd (pi_keys (pe_ix ix_tup (pv 0) pe_int (fun _ _ => rfl))) (blkOk_by (own := [("_law_name", 4)]) (N := N_l_ages) (sc := C8.fnScope s_l_ages) (by decide +kernel)) (fun _ _ _ _ _ => (pg_name (i := 4) nd rfl (Or.inl rfl) (by first | exact Or.inr rfl | exact Or.inl rfl))) (fun _ _ _ _ _ => pts_one (pt_cmp (pc_din hu (pv 4) (pe_dget hu (pv 3) (pe_ix (ix_tupK (K := K)) (pv 2) pe_int (fun _ _ => rfl)) (fun _ _ => rfl))))) (fun _ _ _ _ _ => (pe_tup (pa_cons (pv 4) (pa_cons (pe_op op_sub (pe_ix (ix_tupK (K := K)) (pv 2) pe_int (fun _ _ => rfl)) (pe_dget hu (pe_dget hu (pv 3) (pe_ix (ix_tupK (K := K)) (pv 2) pe_int (fun _ _ => rfl)) (fun _ _ => rfl)) (pv 4) (fun _ _ => rfl))) pa_nil))))))) pa_nil))))))), ?_⟩
  walk_at "rd"
  rename_i d hd H1 he1 hd1 l1 hl1 H2 he2 hl1' l2 hl2 H3 he3 hl2' la hla H4 he4 hla'
  have eN : k1.map (fun kv => kV kv.1) ++ k2.map (fun kv => kV kv.1) = N.names.map V.str := by
    rw [g1.keys, g2.keys, ← List.map_append]
    rfl
  rw [eN] at hla'
  have hd4 : H4 d = some (.dK []) := by walk_at "up"
  refine for_goB (walk_list (K := K) (a := la) (xs := N.names.map V.str)) (fun i σ Hc => ∃ u1, σ = [some (.ref p), some (.ref pp), some (.ref qa), some (.ref d), u1, none, none, none] ∧ Ex TT H Hc ∧ Hc la = some (.lst (N.names.map V.str)) ∧ FoundAt N Hc d N.stamp0 (N.names.take i) i) ⟨_, rfl, by walk_at "up", hla', [], hd4, Nat.le_refl _, fun n hn => by simp at hn⟩ (fun i σ Hc hi ⟨u, _, ec, hl, _⟩ => SqL.of hl) ?_ ?_
  · intro i y σ Hc Hc' hi ⟨u1, es, ec, hlc, kvs, hkv, lkv, hf⟩ yy
    subst es
    obtain ⟨rfl, hy⟩ := yy
    rw [List.length_map] at hi
    obtain ⟨n, hn⟩ : ∃ b, N.names[i]? = some b := ⟨N.names[i], List.getElem?_eq_getElem _⟩
    have hnm := List.mem_of_getElem? hn
    rw [List.getElem?_map, hn] at hy
    cases hy
    have lpos : kvs.length ≤ 5 := by omega
    have hix : N.idx n < 5 := by
      have := List.idxOf_lt_length_iff.mpr hnm
      unfold Net.idx
      omega
    have lu := under_len ok n
    walk_at "rd"
    rename_i lu0 H5 he5 hlu0 hlu5
    refine lc_lstP (T := TT) (N.under n) (fun v x => v = V.str x) hlu5 (Paired.of_fn _) (by omega) (fun x => N.isSrc x) (PairI fun _ => 0) (fun y b Ha Hb t h => h.tu t) ?_ ?_
    · intro x v Hx K1 K0 hxm hv ex kk1 kk0
      subst hv
      have hss : (valV k1 (Sum.inr x)).isSome = N.isSrc x := g1.isSome
      have hp' : Hx p = some (.tup [.ref d1, .ref d2]) := by walk_at "up"
      cases hc : N.isSrc x with
      | true =>
        rw [hc] at hss
        walk_at "rd"
        exact kk1 hc _ _ (by walk_at "up") ⟨_, rfl, by walk_at "up"⟩
      | false =>
        rw [hc] at hss
        walk_at "rd"
        exact kk0 hc _ (by walk_at "up")
    · intro D6 ys H6 hD6 he6 hd6 qq
      obtain ⟨ps, rfl, hps⟩ := pairs_refs (K := K) qq
      have hd6' : H6 d = some (.dK kvs) := by walk_at "up"
      walk_at "rd"
      rename_i D7 hD7 H7 he7 hd7
      have sk := kvI_new (fun _ => (0 : Int)) ((N.under n).filter fun x => N.isSrc x)
      rw [stamp0_law] at sk
      have hd0 : Hc' D7 = none := by walk_at "up"
      have hld : d ≠ la := fun z => by
        rw [z, hlc] at hkv
        cases hkv
      have hdD : D7 ≠ d := Ne.symm (ne_of_at hkv hd0)
      have e06 : Ex TT Hc' H7 := by walk_at "up"
      have lfil : ((N.under n).filter fun x => N.isSrc x).length ≤ (N.under n).length := List.length_filter_le _ _
      have fin := FoundAt.put (n := n) (e06.at hkv) lkv (fun m hm => by
        obtain ⟨q, g1, g2, g3⟩ := hf m hm
        exact ⟨q, g1, g2, g3.ex e06⟩) hdD (f := N.stamp0 n) ⟨_, hd7, sk.le (by unfold Net.bd; omega)⟩
      refine ⟨⟨_, rfl, by walk_at "up", by walk_at "up", fin.eq (fun m hm => ?_)⟩⟩
      refine ⟨?_, ?_⟩
      · rw [List.take_add_one, hn] at hm
        simp at hm
        rcases hm with hm | hm
        · exact List.mem_cons_of_mem _ hm
        · rw [hm]
          exact List.mem_cons_self
      · unfold setS
        split
        · rename_i z
          rw [z]
        · rfl
  · rintro σ Hc ⟨u1, rfl, ec, hlc, hF⟩
    rw [List.length_map, List.take_length] at hF
    have hppc : Hc pp = some (.lst xs) := by walk_at "up"
    walk_at "rd"
    refine for_goB (walk_list (K := K) (a := pp) (xs := xs)) (fun i σ Hx => ∃ u4 u5 u6 u7, σ = [some (.ref p), some (.ref pp), some (.ref qa), some (.ref d), u4, u5, u6, u7] ∧ Ex TT H Hx ∧ FoundAt N Hx d ((pl.take i).foldl (N.stampStep q.1) N.stamp0) N.names (10 + i)) ⟨u1, none, none, none, rfl, ec, ?_⟩ (fun i σ Hx hi ⟨_, _, _, _, _, ex, _⟩ => SqL.of (ex.at hpp)) ?_ ?_
    · obtain ⟨kv, a1, a2, a3⟩ := hF
      exact ⟨kv, a1, by omega, a3⟩
    · intro i y σ Hc Hc' hi ⟨u4, u5, u6, u7, es, ec, kvs, hkv, lkv, hf⟩ yy
      subst es
      obtain ⟨rfl, hy⟩ := yy
      rw [lx] at hi
      obtain ⟨r, hrr⟩ : ∃ b, pl[i]? = some b := ⟨pl[i], List.getElem?_eq_getElem _⟩
      have hrm := hpn r (List.mem_of_getElem? hrr)
      obtain ⟨y', hy', tr, rfl, htr⟩ := Paired.at hx hrr
      rw [hy'] at hy
      cases hy
      have lkv' : kvs.length ≤ 2000 := by omega
      have step : (pl.take (i + 1)).foldl (N.stampStep q.1) N.stamp0 = N.stampStep q.1 ((pl.take i).foldl (N.stampStep q.1) N.stamp0) r := by
        rw [List.take_add_one, hrr, List.foldl_append]
        rfl
      have done1 : ∀ {H1 : Hp} {q' : Addr} {f : Stamp}, Ex TT Hc' H1 → q' ≠ d → StampD H1 q' f (N.bd r.2) → N.stampStep q.1 ((pl.take i).foldl (N.stampStep q.1) N.stamp0) r = setS ((pl.take i).foldl (N.stampStep q.1) N.stamp0) r.2 f →
          FoundAt N (upd H1 d (.dK (putK kvs (Sum.inr r.2) (.ref q')))) d ((pl.take (i + 1)).foldl (N.stampStep q.1) N.stamp0) N.names (10 + (i + 1)) := by
        intro H1 q' f e1 hq hs es
        rw [step, es]
        have := FoundAt.put (n := r.2) (ns := N.names) (e1.at hkv) lkv (fun m hm => by
          obtain ⟨q', g1, g2, g3⟩ := hf m hm
          exact ⟨q', g1, g2, g3.ex e1⟩) hq hs
        exact this.eq fun m hm => ⟨List.mem_cons_of_mem _ hm, rfl⟩
      have hss : (valV k1 (Sum.inr r.2)).isSome = N.isSrc r.2 := g1.isSome
      by_cases c1 : r.1 ≤ q.1
      · cases c2 : N.isSrc r.2 with
        | true =>
          rw [c2] at hss
          have es : N.stampStep q.1 ((pl.take i).foldl (N.stampStep q.1) N.stamp0) r = setS ((pl.take i).foldl (N.stampStep q.1) N.stamp0) r.2 (putS noS r.2 r.1) := by
            unfold Net.stampStep
            rw [if_pos c1, if_pos c2]
          walk_at "rd"
          rename_i D6 hD6 H6 e6 hd6
          refine ⟨(rfl : _ = [((Sum.inr r.2 : Key), V.int r.1)].map fun kv => (kV kv.1, kv.2)), by simp, ?_⟩
          walk_at "rd"
          have hpd : D6 ≠ d := Ne.symm (ne_of_at hkv hD6)
          have fin := done1 (H1 := upd H6 D6 (.dK (mergeK [] [((Sum.inr r.2 : Key), V.int r.1)]))) (q' := D6) (f := putS noS r.2 r.1) (by walk_at "up") hpd ⟨_, upd_same, (StampK.nil.put r.2 r.1).le (by have := bd_ge ok r.2; omega)⟩ es
          exact ⟨⟨_, _, _, _, rfl, by walk_at "up", fin⟩⟩
        | false =>
          rw [c2] at hss
          have es : N.stampStep q.1 ((pl.take i).foldl (N.stampStep q.1) N.stamp0) r = setS ((pl.take i).foldl (N.stampStep q.1) N.stamp0) r.2 (joinS ((N.inputs r.2).map ((pl.take i).foldl (N.stampStep q.1) N.stamp0))) := by
            unfold Net.stampStep
            rw [if_pos c1, if_neg (by rw [c2]; exact Bool.false_ne_true)]
          walk_at "rd"
          rename_i D6 hD6 H6 e6 hd6 li H7 e7 hli hli'
          have b1 := bd_inputs ok r.2
          have b2 := bd_le ok r.2
          have hD6d : D6 ≠ d := Ne.symm (ne_of_at hkv hD6)
          have hD6l : D6 ≠ li := ne_of_at hd6 hli
          have hd67 : H7 D6 = some (.dK []) := by walk_at "up"
          have hLi : ((N.inputs r.2).map V.str).length = (N.inputs r.2).length := List.length_map _
          refine for_goB (walk_list (K := K) (a := li) (xs := (N.inputs r.2).map V.str)) (fun j σ Hx => ∃ u7, σ = [some (.ref p), some (.ref pp), some (.ref qa), some (.ref d), some (.str r.2), some (.int r.1), some (.ref D6), u7] ∧ Ex TT Hc' Hx ∧ Hx li = some (.lst ((N.inputs r.2).map V.str)) ∧ ∃ ks, Hx D6 = some (.dK ks) ∧ StampK ks (joinS (((N.inputs r.2).take j).map ((pl.take i).foldl (N.stampStep q.1) N.stamp0))) ((((N.inputs r.2).take j).map N.bd).sum))
            ⟨_, rfl, by walk_at "up", hli', [], hd67, StampK.nil⟩ (fun j σ Hx hj ⟨_, _, _, hl, _⟩ => SqL.of hl) ?_ ?_
          · intro j y σ Hx Hx' hj ⟨u7, es', ex, hlx, ks, hks, sk⟩ yy
            subst es'
            obtain ⟨rfl, hy⟩ := yy
            rw [hLi] at hj
            obtain ⟨t, ht⟩ : ∃ b, (N.inputs r.2)[j]? = some b := ⟨(N.inputs r.2)[j], List.getElem?_eq_getElem _⟩
            have htm := List.mem_of_getElem? ht
            rw [List.getElem?_map, ht] at hy
            cases hy
            obtain ⟨q', w1, w2, k3, w3, w4⟩ := hf t (ok.order htm).2.2.1
            have hkx : Hx' d = some (.dK kvs) := by walk_at "up"
            have hk3 : Hx' q' = some (.dK k3) := by walk_at "up"
            have hDq : D6 ≠ q' := Ne.symm (ne_of_at w3 hD6)
            have htk : (((N.inputs r.2).take (j + 1)).map N.bd).sum = (((N.inputs r.2).take j).map N.bd).sum + N.bd t := by
              rw [List.take_add_one, ht]
              simp
            have hle : (((N.inputs r.2).take (j + 1)).map N.bd).sum ≤ ((N.inputs r.2).map N.bd).sum := by
              conv => rhs; rw [← List.take_append_drop (j + 1) (N.inputs r.2), List.map_append, List.sum_append]
              omega
            have y1 := sk.len
            have y2 := w4.len
            walk_at "rd"
            refine ⟨sz5 (by omega), ?_⟩
            refine ⟨⟨_, rfl, by walk_at "up", by walk_at "up", mergeK ks k3, upd_same, ?_⟩⟩
            have := sk.merge w4
            rw [htk, List.take_add_one, ht]
            show StampK _ (joinS (List.map _ ((N.inputs r.2).take j ++ [t]))) _
            rw [List.map_append, List.map_singleton, joinS_snoc]
            exact this
          · rintro σ Hx ⟨u7, rfl, ex, hlx, ks, hks, sk⟩
            rw [hLi, List.take_length] at sk
            have hkx : Hx d = some (.dK kvs) := ex.at hkv
            walk_at "rd"
            have fin := done1 (H1 := Hx) (q' := D6) ex hD6d ⟨ks, hks, sk.le (by omega)⟩ es
            exact ⟨⟨_, _, _, _, rfl, by walk_at "up", fin⟩⟩
      · have es : N.stampStep q.1 ((pl.take i).foldl (N.stampStep q.1) N.stamp0) r = (pl.take i).foldl (N.stampStep q.1) N.stamp0 := by
          unfold Net.stampStep
          rw [if_neg c1]
        walk_at "rd"
        refine ⟨⟨_, _, _, _, rfl, by walk_at "up", ?_⟩⟩
        rw [step, es]
        exact ⟨kvs, hkv, by omega, hf⟩
    · rintro σ Hx ⟨u4, u5, u6, u7, rfl, ex, hF⟩
      rw [lx, List.take_length] at hF
      obtain ⟨kv, a1, a2, a3⟩ := hF
      obtain ⟨p0, w1, w2, ks, w3, w4⟩ := a3 q.2.1 hqm
      refine LkE.of ⟨d1, .dK k1, ex.at e1, trivial, fun od => ?_⟩
      have ebl := lk_in (T := TT) od ex e1
      have hlk : ∀ H', Ex TT (upd H d1 (.frz od (.dK k1))) H' → H' d1 = some (.frz od (.dK k1)) ∧ Ex TT H (upd H' d1 (.dK k1)) := fun H' e => lk_out e1 e
      have zd : d ≠ d1 := Ne.symm (ne_of_at e1 hd)
      have zp : p0 ≠ d1 := fun z => by
        rw [z, ex.at e1] at w3
        cases w3
        cases hs : N.src with
        | nil => have := ok.s1; rw [hs] at this; simp at this
        | cons s0 r0 =>
          have hl : look N.src s0.1 = some s0.2 := by rw [hs]; exact look_pos rfl
          obtain ⟨v0, b1, t0, b2, _⟩ := g1.yes hl
          rw [w4.val, b2] at b1
          cases hq : (N.stamps pl q.1 q.2.1) s0.1 with
          | none => rw [show (pl.foldl (N.stampStep q.1) N.stamp0) q.2.1 s0.1 = none from hq] at b1; cases b1
          | some i => rw [show (pl.foldl (N.stampStep q.1) N.stamp0) q.2.1 s0.1 = some i from hq] at b1; cases b1
      have zpp : p ≠ d1 := fun z => by rw [z, e1] at hp; cases hp
      have zq : qa ≠ d1 := fun z => by rw [z, e1] at hqa; cases hqa
      have hdl : upd Hx d1 (.frz od (.dK k1)) d = some (.dK kv) := by rw [upd_ne zd]; exact a1
      have hpl : upd Hx d1 (.frz od (.dK k1)) p0 = some (.dK ks) := by rw [upd_ne zp]; exact w3
      have hppl : upd Hx d1 (.frz od (.dK k1)) p = some (.tup [.ref d1, .ref d2]) := by rw [upd_ne zpp]; exact ex.at hp
      have hqal : upd Hx d1 (.frz od (.dK k1)) qa = some (.tup [.int q.1, .str q.2.1, .int q.2.2]) := by rw [upd_ne zq]; exact ex.at hqa
      have hl1 : upd Hx d1 (.frz od (.dK k1)) d1 = some (.frz od (.dK k1)) := upd_same
      generalize upd H d1 (.frz od (.dK k1)) = Hb at ebl hlk
      generalize upd Hx d1 (.frz od (.dK k1)) = Hl at ebl hdl hpl hppl hqal hl1
      have wk := walk_keys (d := d1) (o := od) (kvs := k1)
      have hlk1 : k1.length = (N.src.map (·.1)).length := by rw [List.length_map]; exact lk1
      rw [hlk1] at wk
      walk_at "rd"
      refine .inl ⟨_, hl1, ?_⟩
      have hst : ∀ x, valV ks (Sum.inr x) = ((N.stamps pl q.1 q.2.1) x).map V.int := w4.val
      refine lc_mapL (T := TT) (N.src.map (·.1)) (fun x => ((N.stamps pl q.1 q.2.1) x).isSome) (PairI fun x => q.1 - ((N.stamps pl q.1 q.2.1) x).getD 0) (fun y b Ha Hb t h => h.tu t) wk (by rw [List.length_map]; omega) (fun H' e => e.at hl1) ?_ ?_
      · intro i x y Hy Hy' K1 K0 hxi ey yy kk1 kk0
        obtain ⟨rfl, hyy⟩ := yy
        have := keys_at g1 hyy
        rw [List.getElem?_map, hxi] at this
        cases this
        have hvx := hst x
        cases hc : (N.stamps pl q.1 q.2.1) x with
        | none =>
          rw [hc] at hvx
          have hss : (valV ks (Sum.inr x)).isSome = false := by rw [hvx]; rfl
          walk_at "rd"
          exact kk0 (by rw [hc]; rfl) _ (Ex.refl _)
        | some i =>
          rw [hc] at hvx
          have hvx : valV ks (Sum.inr x) = some (V.int i) := hvx
          have hss : (valV ks (Sum.inr x)).isSome = true := by rw [hvx]; rfl
          walk_at "rd"
          exact kk1 (by rw [hc]; rfl) _ _ (by walk_at "up") ⟨_, rfl, by simp only [hc, Option.getD_some]; walk_at "up"⟩
      · intro D8 ys H8 hD8 e8 hd8 qq
        obtain ⟨f1, f2⟩ := hlk _ (ebl.trans e8)
        refine ⟨f1, ?_⟩
        have z8 : D8 ≠ d1 := fun z => by rw [z, f1] at hd8; cases hd8
        have hd9 : upd H8 d1 (.dK k1) D8 = some (.lst ys) := by rw [upd_ne z8]; exact hd8
        have qq9 : Paired (PairI (fun x => q.1 - ((N.stamps pl q.1 q.2.1) x).getD 0) (upd H8 d1 (.dK k1))) ys ((N.src.map (·.1)).filter fun x => ((N.stamps pl q.1 q.2.1) x).isSome) := Paired.imp qq fun _ _ z => z.tu (Tu.set f1)
        generalize upd H8 d1 (.dK k1) = H9 at f2 hd9 qq9
        obtain ⟨ps, rfl, hps⟩ := pairs_refs (K := K) qq9
        walk_at "rd"
        rename_i D10 hD10 H10 e10 hd10
        have sk := kvI_new (fun x => q.1 - ((N.stamps pl q.1 q.2.1) x).getD 0) ((N.src.map (·.1)).filter fun x => ((N.stamps pl q.1 q.2.1) x).isSome)
        rw [ages_of_filter] at sk
        have lf : ((N.src.map (·.1)).filter fun x => ((N.stamps pl q.1 q.2.1) x).isSome).length ≤ 5 := Nat.le_trans (List.length_filter_le _ _) (by rw [List.length_map]; omega)
        exact k _ _ _ (by walk_at "up") (by walk_at "up") hd10 (sk.le lf)
end
end Rf
end

set_option Elab.async false
set_option linter.all false
set_option maxRecDepth 100000
set_option maxHeartbeats 4000000
set_option pp.maxSteps 1500
section
open PySem PySem.Spec PyProof.Rows L2 Rf
local macro_rules | `(tactic| walk_at "up") => `(tactic| first | assumption | exact Ex.refl _ | exact upd_same | (apply upd_at; (focus assumption); walk_at "up") | (apply upd_at'; (focus assumption); walk_at "up") | (apply Ex.mutL; (focus (walk_at "up")); (focus (walk_at "up")); walk_at "up") | (apply Ex.mutD; (focus (walk_at "up")); (focus (walk_at "up")); walk_at "up") | (apply Ex.free'; (focus assumption); walk_at "up") | (apply Ex.atT; (focus assumption); walk_at "up") | (apply Ex.atL; (focus assumption); walk_at "up") | (apply Ex.atD; (focus assumption); walk_at "up") | (apply Ex.atI; (focus assumption); walk_at "up") | (apply Ex.atF; (focus assumption); walk_at "up") | (apply Ex.then'; (focus assumption); walk_at "up") | (apply NetAt.ex; (focus assumption); walk_at "up") | (apply PartsAt.ex; (focus assumption); walk_at "up") | (apply PlanAt.ex; (focus assumption); walk_at "up") | (apply QrsAt.ex; (focus assumption); walk_at "up") | (apply SrcD.ex; (focus assumption); walk_at "up") | (apply VwD.ex; (focus assumption); walk_at "up") | (apply SeqIs.ex; (focus assumption); walk_at "up") | (apply NetAt.ex'; (focus assumption); walk_at "up") | (apply PartsAt.ex'; (focus assumption); walk_at "up") | (apply PlanAt.ex'; (focus assumption); walk_at "up") | (apply QrsAt.ex'; (focus assumption); walk_at "up") | (apply SrcD.ex'; (focus assumption); walk_at "up") | (apply VwD.ex'; (focus assumption); walk_at "up") | (apply SeqIs.ex'; (focus assumption); walk_at "up") | (apply Ex.atT'; (focus assumption); walk_at "up") | (apply Ex.atL'; (focus assumption); walk_at "up") | (apply Ex.atD'; (focus assumption); walk_at "up") | (apply Ex.atI'; (focus assumption); walk_at "up") | (with_reducible apply FrmAt.ex'; (focus assumption); walk_at "up") | (with_reducible apply VwAt.ex'; (focus assumption); walk_at "up") | (with_reducible apply RowAt.ex'; (focus assumption); walk_at "up") | (with_reducible apply SrcAt.ex'; (focus assumption); walk_at "up") | (with_reducible apply QryAt.ex'; (focus assumption); walk_at "up") | (with_reducible apply Rows.ex'; (focus assumption); walk_at "up") | (with_reducible apply StAt.exE; (focus assumption); walk_at "up") | (with_reducible apply sqU; (focus assumption); assumption) | (with_reducible apply sqE; (focus assumption); walk_at "up") | (with_reducible apply sqM; (focus assumption); (focus (walk_at "ne")); walk_at "up") | (with_reducible apply Ex.tabs'; (focus assumption); walk_at "up") | (with_reducible apply Ex.thenM; (focus assumption); (focus (walk_at "up")); walk_at "up") | (with_reducible apply Ex.thenMM; (focus assumption); walk_at "up") | (with_reducible apply atML; (focus assumption); (focus (walk_at "ne")); walk_at "up") | (with_reducible apply atMD; (focus assumption); (focus (walk_at "ne")); walk_at "up") | (with_reducible apply atMT; (focus assumption); (focus (walk_at "ne")); walk_at "up"))
local macro_rules | `(tactic| walk_at "ne") => `(tactic| first | assumption | (apply ne_st; (focus assumption); (walk_at "up")))
local macro_rules | `(tactic| walk_at "sv") => `(tactic| first | rfl | assumption | exact Ex.refl _ | exact ClsV.ty _ | (apply TyX.base; first | exact TyOf.int _ | exact TyOf.str _ | exact TyOf.bl _ | (apply TyOf.tup; walk_at "up") | (apply TyOf.lst; walk_at "up") | (apply TyOf.dK; walk_at "up")) | exact kit_ty (by decide +kernel) | (apply Rd.of; walk_at "up") | (apply DGet_some; (focus (walk_at "up")); assumption) | (apply DGet_f; (focus (walk_at "up")); assumption) | (apply DGet_s; walk_at "up") | (apply DPut_s; (focus (walk_at "up")); omega) | (apply sz5; simp only [List.length_map, List.length_append, List.length_cons, List.length_nil]; omega) | (apply sz4; simp only [List.length_map, List.length_append, List.length_cons, List.length_nil]; omega) | (apply SqL.of; walk_at "up") | (apply SqT.of; walk_at "up") | (apply Or.inl; apply SqL.of; walk_at "up") | (apply Or.inr; apply SqT.of; walk_at "up") | (apply Exists.intro; first | (apply SqL.of; walk_at "up") | (apply SqT.of; walk_at "up")) | exact flatStrs _ | (apply dp_nil; walk_at "up") | (apply dp_strs; walk_at "up") | (apply dp_ints; walk_at "up") | (apply dp_row; walk_at "up") | (apply dp_rowL; walk_at "up") | (apply dp_rows; (focus (walk_at "up")); walk_at "up") | exact shaped_nil | exact shaped_ints | (apply shaped_strs; assumption) | (apply shaped_rows; assumption) | (apply shaped_row; assumption) | (with_reducible apply RowAt.mk; walk_at "up") | (apply tyL; walk_at "up") | (apply tyD; walk_at "up") | (with_reducible apply cmul_r; constructor <;> omega) | (with_reducible apply cmul_l; constructor <;> omega) | (with_reducible apply cdiv_i; constructor <;> omega) | walk_at "up" | (with_reducible apply ne_st; (focus assumption); walk_at "up") | omega | (dsimp only; omega) | decide | (simp only [List.length_map, List.length_append, List.length_cons, List.length_nil]; omega))
local macro_rules | `(tactic| walk_at "cn") => `(tactic| first | assumption | omega | (dsimp only; omega) | (simp only [List.length_map, List.length_append, List.length_cons, List.length_nil, List.length_reverse]; omega) | decide)
local macro_rules | `(tactic| walk_at "rd") => `(tactic| first
  | (with_reducible show LcGo _ _ _ _ _ _ _ _)
  | (with_reducible show DcGo _ _ _ _ _ _ _ _ _)
  | (with_reducible show ForGo _ _ _ _ _ _)
  | (refine allocI (fun p hp => ?_); generalize hh : upd _ _ _ = H2; have e := exNew (T := ‹Tb›) hh hp; have h := updAt hh; clear hh; walk_at "rd")
  | (apply And.intro; (focus (walk_at "sv")); walk_at "rd")
  | (apply Exists.intro; walk_at "rd")
  | (refine iteY ?_ ?_; (focus (walk_at "cn")); walk_at "rd")
  | (refine iteN ?_ ?_; (focus (walk_at "cn")); walk_at "rd")
  | (refine iteY' ?_ ?_; (focus (walk_at "cn")); walk_at "rd")
  | (refine iteN' ?_ ?_; (focus (walk_at "cn")); walk_at "rd")
  | (refine iteBt ?_ ?_; (focus (first | assumption | decide +kernel)); walk_at "rd")
  | (refine iteBf ?_ ?_; (focus (first | assumption | decide +kernel)); walk_at "rd")
  | (intro _; walk_at "rd") | skip)
namespace Rf
section
variable {P : Program} {w : World} {K : PySem.W.Frag} {mg : Str → Option Value} {base : Heap} {C : Addr} (TT : Tb)
def sp_l_error (dep : Nat) : Sp := fun vs H Q _ => ∃ v N sd kvs a b n, vs = [v, .ref sd, .str n] ∧ PartsAt H v N ∧ NetOk N ∧ n ∈ N.names ∧ N.idx n < dep ∧ H sd = some (.dK kvs) ∧ StampK kvs a b ∧ (∀ x ∈ N.under n, N.isSrc x = true → (a x).isSome = true) ∧ ∀ H', Ex TT H H' → Q (.int (N.err a n)) H'
theorem cal_l_error (T : Tx K mg C) (D : DefB K mg "_law_error" s_l_error ["_law_parts", "_law_spans", "_law_name"]) : ∀ dep : Nat, C8.Cal P w K mg base (dep + 3) "_law_error" (sp_l_error TT dep) []
  | 0 => cal_of D sc_l_error (fun vs H Q E h => by obtain ⟨_, _, _, _, _, _, _, rfl, _⟩ := h; rfl) (fun fa cdv A outer s H vs Q E hr h => by obtain ⟨_, _, _, _, _, _, _, _, _, _, _, h, _⟩ := h; omega)
  | dep + 1 => by
    have c_l_error := cal_l_error T D dep
    refine cal_of D sc_l_error (fun vs H Q E h => by obtain ⟨_, _, _, _, _, _, _, rfl, _⟩ := h; rfl) (fun fa cdv A outer s H vs Q E hr h => ?_)
    obtain ⟨v, N, sd, kvs, a, b, n, rfl, ⟨p, d1, d2, rfl, hp, ⟨k1, e1, g1⟩, ⟨k2, e2, g2⟩⟩, ok, hn, hd, hsd, sk, hfull, k⟩ := h
    have nd := sc_l_error.nd
    have hu := hu_of hr
    have hP : PartsAt H (.ref p) N := ⟨p, d1, d2, rfl, hp, ⟨k1, e1, g1⟩, ⟨k2, e2, g2⟩⟩
    refine ⟨_, (pss_cons (ps_if (pt_cmp (pc_din hu (pv 2) (pe_ix ix_tup (pv 0) pe_int (fun _ _ => rfl)))) (pss_one (ps_ret (pe_op op_mul (pe_ix ix_tup (pe_dget hu (pe_ix ix_tup (pv 0) pe_int (fun _ _ => rfl)) (pv 2) (fun _ _ => rfl)) pe_int (fun _ _ => rfl)) (pe_dget hu (pv 1) (pv 2) (fun _ _ => rfl))))) pss_nil)
        (pss_cons (ps_asg (pe_ix ix_tup (pe_dget hu (pe_ix ix_tup (pv 0) pe_int (fun _ _ => rfl)) (pv 2) (fun _ _ => rfl)) pe_int (fun _ _ => rfl)) (pg_tup rfl (pgs_cons (pg_name (i := 3) nd rfl (Or.inl rfl) (by first | exact Or.inr rfl | exact Or.inl rfl)) (pgs_cons (pg_name (i := 4) nd rfl (Or.inl rfl) (by first | exact Or.inr rfl | exact Or.inl rfl)) pgs_nil))))
        (pss_cons (ps_if (pt_cmpR op_eq (pv 3) pe_str (nomark _)) (pss_one (ps_ret (pe_callB (cr_sum rfl) (by rfl) T.n_sum (by decide +kernel) (pa_cons (lcX (pe_lc (g := (gTup K 2 (gCons (gName 5) (gCons (gName 6) gNil)))) rfl nd (pi_tup (pv 4)) (blkOk_by (own := [("_law_factor", 5), ("_law_one", 6)]) (N := N_l_error) (sc := C8.fnScope s_l_error) (by decide +kernel)) (fun _ _ _ _ _ => (pg_tup rfl (pgs_cons (pg_name (i := 5) nd rfl (Or.inl rfl) (by first | exact Or.inr rfl | exact Or.inl rfl)) (pgs_cons (pg_name (i := 6) nd rfl (Or.inl rfl) (by first | exact Or.inr rfl | exact Or.inl rfl)) pgs_nil)))) (fun _ _ _ _ _ => pts_nil) (fun _ _ _ _ _ => (pe_op op_mul (pe_callB call_abs (by rfl) T.n_abs (by decide +kernel) (pa_cons (pv 5) pa_nil)) (C8.pe_c c_l_error hr (by first | decide | omega) (by rfl) (pa_cons (pv 0) (pa_cons (pv 1) (pa_cons (pv 6) pa_nil)))))))) pa_nil)))) pss_nil)
        (pss_one (ps_ret (pe_callB (cr_max rfl) (by rfl) T.n_max (by decide +kernel) (pa_cons (lcX (pe_lc (g := (gName 6)) rfl nd (pi_tup (pv 4)) (blkOk_by (own := [("_law_one", 6)]) (N := N_l_error) (sc := C8.fnScope s_l_error) (by decide +kernel)) (fun _ _ _ _ _ => (pg_name (i := 6) nd rfl (Or.inl rfl) (by first | exact Or.inr rfl | exact Or.inl rfl))) (fun _ _ _ _ _ => pts_nil) (fun _ _ _ _ _ => (C8.pe_c c_l_error hr (by first | decide | omega) (by rfl) (pa_cons (pv 0) (pa_cons (pv 1) (pa_cons (pv 6) pa_nil))))))) pa_nil))))))), ?_⟩
    rcases src_or_view ok hn with ⟨s0, a1, a2, a3⟩ | ⟨f, a1, a2, a3⟩
    · have hss : (valV k1 (Sum.inr n)).isSome = true := by rw [g1.isSome, a1]; rfl
      obtain ⟨v0, hv0, p0, rfl, hp0⟩ := g1.yes a1
      obtain ⟨x0, hx0⟩ := Option.isSome_iff_exists.mp (hfull n (under_self ok n) a3)
      have hxv : valV kvs (Sum.inr n) = some (.int x0) := by rw [sk.val, hx0]; rfl
      have d20 := ok.so _ (look_mem a1)
      have d0 : 0 ≤ s0.1 := d20.d0
      have d9 : s0.1 ≤ 20 := d20.d1
      walk_at "rd"
      have := k H (Ex.refl _)
      rw [err_src ok _ a1, hx0] at this
      exact this
    · have hss : (valV k1 (Sum.inr n)).isSome = false := by rw [g1.isSome, a1]; rfl
      obtain ⟨u, hu1, q, x, rfl, hq, ⟨q2, x2, rfl, hq2, ⟨q3, xs, rfl, hq3, hx⟩⟩⟩ := g2.yes a2
      have okf : FrmOk f.1 := ok.vo.fr _ (look_mem a2)
      have l4 := okf.hi
      have l1 := okf.lo
      have hin : N.inputs n = f.1.names := by unfold Net.inputs; rw [a2]
      have hrec : ∀ x ∈ f.1.names, x ∈ N.names ∧ N.idx x < dep ∧ ∀ y ∈ N.under x, N.isSrc y = true → (a y).isSome = true := fun x hx => by
        rw [← hin] at hx
        have ho := ok.order hx
        exact ⟨ho.2.2.1, by omega, fun y hy => hfull y (under_sub ok _ x (by rw [under_eq ok]; exact List.mem_cons_of_mem _ (List.mem_flatMap.mpr ⟨x, hx, under_self ok x⟩)) y hy)⟩
      rcases hx with ⟨hw, hx⟩ | ⟨hw, hx⟩
      · have hw' : V.str f.1.word = V.str "sum" := by rw [hw]
        walk_at "rd"
        refine lc_tupP (T := TT) f.1.ins (RowAt H) hq3 hx (by omega) (fun _ => true) (fun _ y t => y = V.int (absI t.1 * N.err a t.2)) (fun _ _ _ _ _ h => h) ?_ ?_
        · intro t x Hc K1 K0 hm ⟨r, er, hr⟩ e k1 k0
          subst er
          obtain ⟨b1, b2, b3⟩ := hrec t.2 (List.mem_map.mpr ⟨t, hm, rfl⟩)
          have hsdc : Hc sd = some (.dK kvs) := by walk_at "up"
          walk_at "rd"
          have hf5 := okf.fa t hm
          refine ⟨.inl ⟨?_, ?_⟩, ?_⟩
          · split <;> omega
          · split <;> omega
          · refine k1 rfl _ _ (by walk_at "up") ?_
            rfl
        · intro Dl ys H2 hD e hd qq
          rw [filt_true] at qq
          have eq := ints_of (f := fun t : Int × Str => absI t.1 * N.err a t.2) qq
          rw [eq] at hd
          walk_at "rd"
          have := k H2 e
          rw [err_view ok _ a1 a2, wordErr_sum hw] at this
          exact this
      · have hw' : ¬ V.str f.1.word = V.str "sum" := fun z => hw (V.str.inj z)
        subst hx
        walk_at "rd"
        refine lc_tupP (T := TT) f.1.names (fun v x => v = V.str x) hq3 (Paired.of_fn _) (by unfold Frm.names; rw [List.length_map]; omega) (fun _ => true) (fun _ y x => y = V.int (N.err a x)) (fun _ _ _ _ _ h => h) ?_ ?_
        · intro x v Hc K1 K0 hm hv e k1 k0
          subst hv
          obtain ⟨b1, b2, b3⟩ := hrec x hm
          have hsdc : Hc sd = some (.dK kvs) := by walk_at "up"
          walk_at "rd"
          exact k1 rfl _ _ (by walk_at "up") rfl
        · intro Dl ys H2 hD e hd qq
          rw [filt_true] at qq
          have eq := ints_of (f := fun x => N.err a x) qq
          rw [eq] at hd
          have hpos : 0 < (f.1.names.map (fun x => N.err a x)).length := by unfold Frm.names; rw [List.length_map, List.length_map]; omega
          walk_at "rd"
          rename_i m hm hle
          rw [maxL_eq hm hle]
          have := k H2 e
          rw [err_view ok _ a1 a2, wordErr_max hw] at this
          exact this
def sp_l_worst : Sp := fun vs H Q _ => ∃ v N p xs pl qv q, vs = [v, .ref p, qv] ∧ PartsAt H v N ∧ NetOk N ∧ H p = some (.lst xs) ∧ Rows H xs pl ∧ pl.length ≤ 1000 ∧ (∀ r ∈ pl, r.2 ∈ N.names) ∧ QryAt H qv q ∧ q.2.1 ∈ N.names ∧ ∀ H', Ex TT H H' → Q (.int (N.worst pl q)) H'
theorem cal_l_worst (T : Tx K mg C) (D : DefB K mg "_law_worst" s_l_worst ["_law_parts", "_law_plan_here", "_law_query_here"]) (c_l_ages : C8.Cal P w K mg base 9 "_law_ages" (sp_l_ages TT) []) (c_l_error : C8.Cal P w K mg base 8 "_law_error" (sp_l_error TT 5) []) : C8.Cal P w K mg base 10 "_law_worst" (sp_l_worst TT) [] := by
  refine cal_of D sc_l_worst (fun vs H Q E h => by obtain ⟨_, _, _, _, _, _, _, rfl, _⟩ := h; rfl) (fun fa cdv A outer s H vs Q E hr h => ?_)
  obtain ⟨v, N, p, xs, pl, vq, q, rfl, hP, ok, hp, hx, lp, hpn, hQ, hqm, k⟩ := h
  have nd := sc_l_worst.nd
  obtain ⟨qa, rfl, hqa⟩ := id hQ
  have hix : N.idx q.2.1 < 5 := by
    have h1 := List.idxOf_lt_length_iff.mpr hqm
    have h2 := ok.len
    unfold Net.idx
    omega
  have hfull : ∀ x ∈ N.under q.2.1, N.isSrc x = true → (N.ages pl q x).isSome = true := fun x hx hs => ages_full ok hpn hqm hx hs
  refine ⟨_, (pss_one (ps_ret (C8.pe_c c_l_error hr (by first | decide | omega) (by rfl) (pa_cons (pv 0) (pa_cons (C8.pe_c c_l_ages hr (by first | decide | omega) (by rfl) (pa_cons (pv 0) (pa_cons (pv 1) (pa_cons (pv 2) pa_nil)))) (pa_cons (pe_ix ix_tup (pv 2) pe_int (fun _ _ => rfl)) pa_nil)))))), ?_⟩
  walk_at "rd"
  exact k _ (by walk_at "up")
def sp_l_enough : Sp := fun vs H Q _ => ∃ v N p xs pl p2 xs2 qs, vs = [v, .ref p, .ref p2] ∧ PartsAt H v N ∧ NetOk N ∧ H p = some (.lst xs) ∧ Rows H xs pl ∧ pl.length ≤ 1000 ∧ (∀ r ∈ pl, r.2 ∈ N.names) ∧ H p2 = some (.lst xs2) ∧ Paired (QryAt H) xs2 qs ∧ qs.length ≤ 20 ∧ (∀ q ∈ qs, q.2.1 ∈ N.names) ∧ ∀ H', Ex TT H H' → Q (.bl (N.enough pl qs)) H'
theorem cal_l_enough (T : Tx K mg C) (D : DefB K mg "_law_enough" s_l_enough ["_law_parts", "_law_plan_here", "_law_queries"]) (c_l_worst : C8.Cal P w K mg base 10 "_law_worst" (sp_l_worst TT) []) : C8.Cal P w K mg base 11 "_law_enough" (sp_l_enough TT) [] := by
  refine cal_of D sc_l_enough (fun vs H Q E h => by obtain ⟨_, _, _, _, _, _, _, _, rfl, _⟩ := h; rfl) (fun fa cdv A outer s H vs Q E hr h => ?_)
  obtain ⟨v, N, p, xs, pl, p2, xs2, qs, rfl, hP, ok, hp, hx, lp, hpn, hp2, hx2, lq, hqn, k⟩ := h
  have nd := sc_l_enough.nd
  refine ⟨_, (pss_one (ps_ret (pe_callB (cr_all rfl) (by rfl) T.n_all (by decide +kernel) (pa_cons (lcX (pe_lc (g := (gName 3)) rfl nd (pi_list (pv 2)) (blkOk_by (own := [("_law_query_here", 3)]) (N := N_l_enough) (sc := C8.fnScope s_l_enough) (by decide +kernel)) (fun _ _ _ _ _ => (pg_name (i := 3) nd rfl (Or.inl rfl) (by first | exact Or.inr rfl | exact Or.inl rfl))) (fun _ _ _ _ _ => pts_nil) (fun _ _ _ _ _ => (pe_cmpR op_le (C8.pe_c c_l_worst hr (by first | decide | omega) (by rfl) (pa_cons (pv 0) (pa_cons (pv 1) (pa_cons (pv 3) pa_nil)))) (pe_ix (ix_tupK (K := K)) (pv 3) pe_int (fun _ _ => rfl)) (nomark _))))) pa_nil)))), ?_⟩
  walk_at "rd"
  refine lc_lstP (T := TT) qs (QryAt H) hp2 hx2 (by omega) (fun _ => true) (fun _ y q => y = V.bl (decide (N.worst pl q ≤ q.2.2))) (fun _ _ _ _ _ h => h) ?_ ?_
  · intro q x Hc K1 K0 hm hv e k1 k0
    have hQ : QryAt Hc x q := by walk_at "up"
    have hqm := hqn q hm
    have hxc : Rows Hc xs pl := by walk_at "up"
    obtain ⟨qa, rfl, hqa⟩ := id hQ
    walk_at "rd"
    exact k1 rfl _ _ (by walk_at "up") rfl
  · intro Dl ys H2 hD e hd qq
    rw [filt_true] at qq
    have eq := bools_of (f := fun q : Query => decide (N.worst pl q ≤ q.2.2)) qq
    rw [eq] at hd
    walk_at "rd"
    have := k H2 (by walk_at "up")
    unfold Net.enough at this
    rw [List.all_map]
    exact this
end
end Rf
end

set_option Elab.async false
set_option linter.all false
set_option maxRecDepth 100000
set_option maxHeartbeats 4000000
set_option pp.maxSteps 1500
section
open PySem PySem.Spec PyProof.Rows L2 Rf
local macro_rules | `(tactic| walk_at "up") => `(tactic| first | assumption | exact Ex.refl _ | exact upd_same | (apply upd_at; (focus assumption); walk_at "up") | (apply upd_at'; (focus assumption); walk_at "up") | (apply Ex.mutL; (focus (walk_at "up")); (focus (walk_at "up")); walk_at "up") | (apply Ex.mutD; (focus (walk_at "up")); (focus (walk_at "up")); walk_at "up") | (apply Ex.free'; (focus assumption); walk_at "up") | (apply Ex.atT; (focus assumption); walk_at "up") | (apply Ex.atL; (focus assumption); walk_at "up") | (apply Ex.atD; (focus assumption); walk_at "up") | (apply Ex.atI; (focus assumption); walk_at "up") | (apply Ex.atF; (focus assumption); walk_at "up") | (apply Ex.then'; (focus assumption); walk_at "up") | (apply NetAt.ex; (focus assumption); walk_at "up") | (apply PartsAt.ex; (focus assumption); walk_at "up") | (apply PlanAt.ex; (focus assumption); walk_at "up") | (apply QrsAt.ex; (focus assumption); walk_at "up") | (apply SrcD.ex; (focus assumption); walk_at "up") | (apply VwD.ex; (focus assumption); walk_at "up") | (apply SeqIs.ex; (focus assumption); walk_at "up") | (apply NetAt.ex'; (focus assumption); walk_at "up") | (apply PartsAt.ex'; (focus assumption); walk_at "up") | (apply PlanAt.ex'; (focus assumption); walk_at "up") | (apply QrsAt.ex'; (focus assumption); walk_at "up") | (apply SrcD.ex'; (focus assumption); walk_at "up") | (apply VwD.ex'; (focus assumption); walk_at "up") | (apply SeqIs.ex'; (focus assumption); walk_at "up") | (apply Ex.atT'; (focus assumption); walk_at "up") | (apply Ex.atL'; (focus assumption); walk_at "up") | (apply Ex.atD'; (focus assumption); walk_at "up") | (apply Ex.atI'; (focus assumption); walk_at "up") | (with_reducible apply FrmAt.ex'; (focus assumption); walk_at "up") | (with_reducible apply VwAt.ex'; (focus assumption); walk_at "up") | (with_reducible apply RowAt.ex'; (focus assumption); walk_at "up") | (with_reducible apply SrcAt.ex'; (focus assumption); walk_at "up") | (with_reducible apply QryAt.ex'; (focus assumption); walk_at "up") | (with_reducible apply Rows.ex'; (focus assumption); walk_at "up") | (with_reducible apply StAt.exE; (focus assumption); walk_at "up") | (with_reducible apply sqU; (focus assumption); assumption) | (with_reducible apply sqE; (focus assumption); walk_at "up") | (with_reducible apply sqM; (focus assumption); (focus (walk_at "ne")); walk_at "up") | (with_reducible apply Ex.tabs'; (focus assumption); walk_at "up") | (with_reducible apply Ex.thenM; (focus assumption); (focus (walk_at "up")); walk_at "up") | (with_reducible apply Ex.thenMM; (focus assumption); walk_at "up") | (with_reducible apply atML; (focus assumption); (focus (walk_at "ne")); walk_at "up") | (with_reducible apply atMD; (focus assumption); (focus (walk_at "ne")); walk_at "up") | (with_reducible apply atMT; (focus assumption); (focus (walk_at "ne")); walk_at "up"))
local macro_rules | `(tactic| walk_at "ne") => `(tactic| first | assumption | (apply ne_st; (focus assumption); (walk_at "up")))
local macro_rules | `(tactic| walk_at "sv") => `(tactic| first | rfl | assumption | exact Ex.refl _ | exact ClsV.ty _ | (apply TyX.base; first | exact TyOf.int _ | exact TyOf.str _ | exact TyOf.bl _ | (apply TyOf.tup; walk_at "up") | (apply TyOf.lst; walk_at "up") | (apply TyOf.dK; walk_at "up")) | exact kit_ty (by decide +kernel) | (apply Rd.of; walk_at "up") | (apply DGet_some; (focus (walk_at "up")); assumption) | (apply DGet_f; (focus (walk_at "up")); assumption) | (apply DGet_s; walk_at "up") | (apply DPut_s; (focus (walk_at "up")); omega) | (apply sz5; simp only [List.length_map, List.length_append, List.length_cons, List.length_nil]; omega) | (apply sz4; simp only [List.length_map, List.length_append, List.length_cons, List.length_nil]; omega) | (apply SqL.of; walk_at "up") | (apply SqT.of; walk_at "up") | (apply Or.inl; apply SqL.of; walk_at "up") | (apply Or.inr; apply SqT.of; walk_at "up") | (apply Exists.intro; first | (apply SqL.of; walk_at "up") | (apply SqT.of; walk_at "up")) | exact flatStrs _ | (apply dp_nil; walk_at "up") | (apply dp_strs; walk_at "up") | (apply dp_ints; walk_at "up") | (apply dp_row; walk_at "up") | (apply dp_rowL; walk_at "up") | (apply dp_rows; (focus (walk_at "up")); walk_at "up") | exact shaped_nil | exact shaped_ints | (apply shaped_strs; assumption) | (apply shaped_rows; assumption) | (apply shaped_row; assumption) | (with_reducible apply RowAt.mk; walk_at "up") | (apply tyL; walk_at "up") | (apply tyD; walk_at "up") | (with_reducible apply cmul_r; constructor <;> omega) | (with_reducible apply cmul_l; constructor <;> omega) | (with_reducible apply cdiv_i; constructor <;> omega) | walk_at "up" | (with_reducible apply ne_st; (focus assumption); walk_at "up") | omega | (dsimp only; omega) | decide | (simp only [List.length_map, List.length_append, List.length_cons, List.length_nil]; omega))
local macro_rules | `(tactic| walk_at "cn") => `(tactic| first | assumption | omega | (dsimp only; omega) | (simp only [List.length_map, List.length_append, List.length_cons, List.length_nil, List.length_reverse]; omega) | decide)
local macro_rules | `(tactic| walk_at "rd") => `(tactic| first
  | (with_reducible show LcGo _ _ _ _ _ _ _ _)
  | (with_reducible show DcGo _ _ _ _ _ _ _ _ _)
  | (with_reducible show ForGo _ _ _ _ _ _)
  | (refine allocI (fun p hp => ?_); generalize hh : upd _ _ _ = H2; have e := exNew (T := ‹Tb›) hh hp; have h := updAt hh; clear hh; walk_at "rd")
  | (apply And.intro; (focus (walk_at "sv")); walk_at "rd")
  | (apply Exists.intro; walk_at "rd")
  | (refine iteY ?_ ?_; (focus (walk_at "cn")); walk_at "rd")
  | (refine iteN ?_ ?_; (focus (walk_at "cn")); walk_at "rd")
  | (refine iteY' ?_ ?_; (focus (walk_at "cn")); walk_at "rd")
  | (refine iteN' ?_ ?_; (focus (walk_at "cn")); walk_at "rd")
  | (refine iteBt ?_ ?_; (focus (first | assumption | decide +kernel)); walk_at "rd")
  | (refine iteBf ?_ ?_; (focus (first | assumption | decide +kernel)); walk_at "rd")
  | (intro _; walk_at "rd") | skip)
namespace Rf
section
variable {P : Program} {w : World} {K : PySem.W.Frag} {mg : Str → Option Value} {base : Heap} {C : Addr} (TT : Tb)
def sp_l_trimmed : Sp := fun vs H Q _ => ∃ v N p xs pl p2 xs2 qs, vs = [v, .ref p, .ref p2] ∧ PartsAt H v N ∧ NetOk N ∧ H p = some (.lst xs) ∧ Rows H xs pl ∧ pl.length ≤ 400 ∧ (∀ r ∈ pl, r.2 ∈ N.names) ∧ H p2 = some (.lst xs2) ∧ Paired (QryAt H) xs2 qs ∧ qs.length ≤ 20 ∧ (∀ q ∈ qs, q.2.1 ∈ N.names) ∧
  ∀ d ys H', Ex TT H H' → H d = none → H' d = some (.lst ys) → Rows H' ys (trimL N pl qs) → Q (.ref d) H'
theorem cal_l_trimmed (T : Tx K mg C) (D : DefB K mg "_law_trimmed" s_l_trimmed ["_law_parts", "_law_plan_here", "_law_queries"]) (c_l_enough : C8.Cal P w K mg base 11 "_law_enough" (sp_l_enough TT) []) : C8.Cal P w K mg base 12 "_law_trimmed" (sp_l_trimmed TT) [] := by
  refine cal_of D sc_l_trimmed (fun vs H Q E h => by obtain ⟨_, _, _, _, _, _, _, _, rfl, _⟩ := h; rfl) (fun fa cdv A outer s H vs Q E hr h => ?_)
  obtain ⟨v, N, p, xs, pl, p2, xs2, qs, rfl, hP, ok, hp, hx, l1, hpn, hp2, hx2, lq, hqn, k⟩ := h
  have nd := sc_l_trimmed.nd
  have lx := Paired.length hx
  have hcan : ∀ x ∈ pl, PyData.canLay0 (.str x.2) = true := fun x hx => (ok.good _ (hpn x hx)).ok
  refine ⟨_, (pss_cons (ps_set (i := 3) nd rfl (Or.inl rfl) (pe_callTy call_list_of (by rfl) T.n_list (by decide +kernel) (pa_cons (pv 1) pa_nil)))
      (pss_cons (forX (ps_for PassesOwn.never rfl (pi_list (pe_revL (pv 1))) (pg_name (i := 4) nd rfl (Or.inr rfl) (by first | exact Or.inr rfl | exact Or.inl rfl))
      (pss_cons (slcX (ps_setLc (i := 5) (g := (gName 6)) rfl nd rfl rfl (sw_true rfl rfl rfl (by decide +kernel)) (pi_list (pv 3)) (blkOk_by (own := [("_law_one", 6)]) (N := N_l_trimmed) (sc := C8.fnScope s_l_trimmed) (by decide +kernel)) (fun _ _ _ _ _ => (pg_name (i := 6) nd rfl (Or.inl rfl) (by first | exact Or.inr rfl | exact Or.inl rfl))) (fun _ _ _ _ _ => pts_one (pt_cmpR (op_neDK (K := K) hr.units) (pv 6) (pv 4) (nomark _))) (fun _ _ _ _ _ => (pv 6))))
      (pss_one (ps_if (pt_val (C8.pe_c c_l_enough hr (by first | decide | omega) (by rfl) (pa_cons (pv 0) (pa_cons (pv 5) (pa_cons (pv 2) pa_nil))))) (pss_one (ps_set (i := 3) nd rfl (Or.inl rfl) (pv 5))) pss_nil)))))
      (pss_one (ps_ret (pv 3))))), ?_⟩
  walk_at "rd"
  rename_i fa0 hfa0 H2 e2 hfa2 rp hrp H3 e3 hrp3
  have hf3 : H3 fa0 = some (.lst xs) := by walk_at "up"
  have hL : xs.reverse.length = pl.reverse.length := by rw [List.length_reverse, List.length_reverse, lx]
  have h13 : Ex TT H H3 := by walk_at "up"
  have hr3 : Rows H xs.reverse pl.reverse := Paired.rev hx
  refine for_goB (walk_list (K := K) (a := rp) (xs := xs.reverse)) (fun i σ Hc => ∃ fd ys u4 u5, σ = [some v, some (.ref p), some (.ref p2), some (.ref fd), u4, u5, none] ∧ Ex TT H Hc ∧ Hc rp = some (.lst xs.reverse) ∧ H fd = none ∧ Hc fd = some (.lst ys) ∧ Rows Hc ys ((pl.reverse.take i).foldl (trimStep N qs) pl) ∧
    ((pl.reverse.take i).foldl (trimStep N qs) pl).length ≤ 400 ∧ ∀ x ∈ (pl.reverse.take i).foldl (trimStep N qs) pl, x ∈ pl) ⟨fa0, xs, _, _, rfl, h13, hrp3, by walk_at "up", hf3, hx.tu h13.tu, l1, fun x hx => hx⟩ (fun i σ Hc hi ⟨_, _, _, _, _, _, hl, _⟩ => SqL.of hl) ?_ ?_
  · intro i y σ Hc Hc' hi ⟨fd, ys, u4, u5, es, ec, hrp, hfd0, hfd, hys, hlen, hsub⟩ yy
    subst es
    obtain ⟨rfl, hy⟩ := yy
    rw [hL] at hi
    obtain ⟨r, hrr⟩ : ∃ b, pl.reverse[i]? = some b := ⟨pl.reverse[i], List.getElem?_eq_getElem _⟩
    obtain ⟨y', hy', hrow⟩ := Paired.at hr3 hrr
    rw [hy'] at hy
    cases hy
    have hrm : r ∈ pl := List.mem_reverse.mp (List.mem_of_getElem? hrr)
    have step : (pl.reverse.take (i + 1)).foldl (trimStep N qs) pl = trimStep N qs ((pl.reverse.take i).foldl (trimStep N qs) pl) r := by
      rw [List.take_add_one, hrr, List.foldl_append]
      rfl
    rw [step]
    generalize (pl.reverse.take i).foldl (trimStep N qs) pl = st at hys hlen hsub step ⊢
    have hrow' : RowAt Hc' y r := by walk_at "up"
    have hcr := hcan r hrm
    have dl : (dropR st r).length ≤ 1000 := Nat.le_trans (dropR_len st r) (by omega)
    have dn : ∀ z ∈ dropR st r, z.2 ∈ N.names := fun z hz => hpn z (hsub z (dropR_mem hz))
    walk_at "rd"
    refine lc_lstP (T := TT) st (RowAt Hc') hfd hys (by omega) (fun x => decide (x ≠ r)) (fun H' y x => RowAt H' y x) (fun y b Ha Hb t h => h.tu t) ?_ ?_
    · intro b x Hx K1 K0 hm hv e k1 k0
      have hb' : RowAt Hx x b := by walk_at "up"
      have hr2 : RowAt Hx y r := by walk_at "up"
      have hcb := hcan b (hsub b hm)
      walk_at "rd"
      have ev : (!PyData.eqv (rowD b) (rowD r)) = decide (b ≠ r) := by rw [eqv_row]; simp
      refine ite2 (fun hc => ?_) (fun hc => ?_)
      · have hc : (!PyData.eqv (rowD b) (rowD r)) = true := hc
        rw [ev] at hc
        walk_at "rd"
        exact k1 hc _ _ (Ex.refl _) hb'
      · have hc : ¬ (!PyData.eqv (rowD b) (rowD r)) = true := hc
        rw [ev] at hc
        exact k0 (by simpa using hc) _ (Ex.refl _)
    · intro D4 ys4 H4 hD4 e4 hd4 hR4
      have hR4 : Rows H4 ys4 (dropR st r) := hR4
      have hx24 : Paired (QryAt H4) xs2 qs := Paired.imp hx2 fun _ _ z => z.tu (show Ex TT H H4 by walk_at "up").tu
      walk_at "rd"
      refine ite2 (fun hc => ?_) (fun hc => ?_)
      · walk_at "rd"
        refine ⟨⟨D4, ys4, _, _, rfl, by walk_at "up", by walk_at "up", by walk_at "up", by walk_at "up", ?_, Nat.le_trans trim_len hlen, fun x hx => hsub x (trim_sub x hx)⟩⟩
        unfold trimStep
        rw [if_pos hc]
        walk_at "up"
      · walk_at "rd"
        refine ⟨⟨fd, ys, _, _, rfl, by walk_at "up", by walk_at "up", hfd0, by walk_at "up", ?_, Nat.le_trans trim_len hlen, fun x hx => hsub x (trim_sub x hx)⟩⟩
        unfold trimStep
        rw [if_neg hc]
        walk_at "up"
  · rintro σ Hc ⟨fd, ys, u4, u5, rfl, ec, hrp, hfd0, hfd, hys, hlen, hsub⟩
    rw [hL, List.take_length] at hys
    walk_at "rd"
    exact k _ ys _ ec hfd0 hfd hys
end
end Rf
end

set_option Elab.async false
set_option linter.all false
set_option maxRecDepth 100000
set_option maxHeartbeats 4000000
set_option pp.maxSteps 1500
section
open PySem PySem.Spec PyProof.Rows L2 Rf
local macro_rules | `(tactic| walk_at "up") => `(tactic| first | assumption | exact Ex.refl _ | exact upd_same | (apply upd_at; (focus assumption); walk_at "up") | (apply upd_at'; (focus assumption); walk_at "up") | (apply Ex.mutL; (focus (walk_at "up")); (focus (walk_at "up")); walk_at "up") | (apply Ex.mutD; (focus (walk_at "up")); (focus (walk_at "up")); walk_at "up") | (apply Ex.free'; (focus assumption); walk_at "up") | (apply Ex.atT; (focus assumption); walk_at "up") | (apply Ex.atL; (focus assumption); walk_at "up") | (apply Ex.atD; (focus assumption); walk_at "up") | (apply Ex.atI; (focus assumption); walk_at "up") | (apply Ex.atF; (focus assumption); walk_at "up") | (apply Ex.then'; (focus assumption); walk_at "up") | (apply NetAt.ex; (focus assumption); walk_at "up") | (apply PartsAt.ex; (focus assumption); walk_at "up") | (apply PlanAt.ex; (focus assumption); walk_at "up") | (apply QrsAt.ex; (focus assumption); walk_at "up") | (apply SrcD.ex; (focus assumption); walk_at "up") | (apply VwD.ex; (focus assumption); walk_at "up") | (apply SeqIs.ex; (focus assumption); walk_at "up") | (apply NetAt.ex'; (focus assumption); walk_at "up") | (apply PartsAt.ex'; (focus assumption); walk_at "up") | (apply PlanAt.ex'; (focus assumption); walk_at "up") | (apply QrsAt.ex'; (focus assumption); walk_at "up") | (apply SrcD.ex'; (focus assumption); walk_at "up") | (apply VwD.ex'; (focus assumption); walk_at "up") | (apply SeqIs.ex'; (focus assumption); walk_at "up") | (apply Ex.atT'; (focus assumption); walk_at "up") | (apply Ex.atL'; (focus assumption); walk_at "up") | (apply Ex.atD'; (focus assumption); walk_at "up") | (apply Ex.atI'; (focus assumption); walk_at "up") | (with_reducible apply FrmAt.ex'; (focus assumption); walk_at "up") | (with_reducible apply VwAt.ex'; (focus assumption); walk_at "up") | (with_reducible apply RowAt.ex'; (focus assumption); walk_at "up") | (with_reducible apply SrcAt.ex'; (focus assumption); walk_at "up") | (with_reducible apply QryAt.ex'; (focus assumption); walk_at "up") | (with_reducible apply Rows.ex'; (focus assumption); walk_at "up") | (with_reducible apply StAt.exE; (focus assumption); walk_at "up") | (with_reducible apply sqU; (focus assumption); assumption) | (with_reducible apply sqE; (focus assumption); walk_at "up") | (with_reducible apply sqM; (focus assumption); (focus (walk_at "ne")); walk_at "up") | (with_reducible apply Ex.tabs'; (focus assumption); walk_at "up") | (with_reducible apply Ex.thenM; (focus assumption); (focus (walk_at "up")); walk_at "up") | (with_reducible apply Ex.thenMM; (focus assumption); walk_at "up") | (with_reducible apply atML; (focus assumption); (focus (walk_at "ne")); walk_at "up") | (with_reducible apply atMD; (focus assumption); (focus (walk_at "ne")); walk_at "up") | (with_reducible apply atMT; (focus assumption); (focus (walk_at "ne")); walk_at "up"))
local macro_rules | `(tactic| walk_at "ne") => `(tactic| first | assumption | (apply ne_st; (focus assumption); (walk_at "up")))
local macro_rules | `(tactic| walk_at "sv") => `(tactic| first | rfl | assumption | exact Ex.refl _ | exact ClsV.ty _ | (apply TyX.base; first | exact TyOf.int _ | exact TyOf.str _ | exact TyOf.bl _ | (apply TyOf.tup; walk_at "up") | (apply TyOf.lst; walk_at "up") | (apply TyOf.dK; walk_at "up")) | exact kit_ty (by decide +kernel) | (apply Rd.of; walk_at "up") | (apply DGet_some; (focus (walk_at "up")); assumption) | (apply DGet_f; (focus (walk_at "up")); assumption) | (apply DGet_s; walk_at "up") | (apply DPut_s; (focus (walk_at "up")); omega) | (apply sz5; simp only [List.length_map, List.length_append, List.length_cons, List.length_nil]; omega) | (apply sz4; simp only [List.length_map, List.length_append, List.length_cons, List.length_nil]; omega) | (apply SqL.of; walk_at "up") | (apply SqT.of; walk_at "up") | (apply Or.inl; apply SqL.of; walk_at "up") | (apply Or.inr; apply SqT.of; walk_at "up") | (apply Exists.intro; first | (apply SqL.of; walk_at "up") | (apply SqT.of; walk_at "up")) | exact flatStrs _ | (apply dp_nil; walk_at "up") | (apply dp_strs; walk_at "up") | (apply dp_ints; walk_at "up") | (apply dp_row; walk_at "up") | (apply dp_rowL; walk_at "up") | (apply dp_rows; (focus (walk_at "up")); walk_at "up") | exact shaped_nil | exact shaped_ints | (apply shaped_strs; assumption) | (apply shaped_rows; assumption) | (apply shaped_row; assumption) | (with_reducible apply RowAt.mk; walk_at "up") | (apply tyL; walk_at "up") | (apply tyD; walk_at "up") | (with_reducible apply cmul_r; constructor <;> omega) | (with_reducible apply cmul_l; constructor <;> omega) | (with_reducible apply cdiv_i; constructor <;> omega) | walk_at "up" | (with_reducible apply ne_st; (focus assumption); walk_at "up") | omega | (dsimp only; omega) | decide | (simp only [List.length_map, List.length_append, List.length_cons, List.length_nil]; omega))
local macro_rules | `(tactic| walk_at "cn") => `(tactic| first | assumption | omega | (dsimp only; omega) | (simp only [List.length_map, List.length_append, List.length_cons, List.length_nil, List.length_reverse]; omega) | decide)
local macro_rules | `(tactic| walk_at "rd") => `(tactic| first
  | (with_reducible show LcGo _ _ _ _ _ _ _ _)
  | (with_reducible show DcGo _ _ _ _ _ _ _ _ _)
  | (with_reducible show ForGo _ _ _ _ _ _)
  | (refine allocI (fun p hp => ?_); generalize hh : upd _ _ _ = H2; have e := exNew (T := ‹Tb›) hh hp; have h := updAt hh; clear hh; walk_at "rd")
  | (apply And.intro; (focus (walk_at "sv")); walk_at "rd")
  | (apply Exists.intro; walk_at "rd")
  | (refine iteY ?_ ?_; (focus (walk_at "cn")); walk_at "rd")
  | (refine iteN ?_ ?_; (focus (walk_at "cn")); walk_at "rd")
  | (refine iteY' ?_ ?_; (focus (walk_at "cn")); walk_at "rd")
  | (refine iteN' ?_ ?_; (focus (walk_at "cn")); walk_at "rd")
  | (refine iteBt ?_ ?_; (focus (first | assumption | decide +kernel)); walk_at "rd")
  | (refine iteBf ?_ ?_; (focus (first | assumption | decide +kernel)); walk_at "rd")
  | (intro _; walk_at "rd") | skip)
namespace Rf
section
variable {P : Program} {w : World} {K : PySem.W.Frag} {mg : Str → Option Value} {base : Heap} {C : Addr} (TT : Tb)
def sp_l_order : Sp := fun vs H Q _ => ∃ v N p xs pl, vs = [v, .ref p] ∧ PartsAt H v N ∧ NetOk N ∧ LamX.Tabs TT H ∧ H p = some (.lst xs) ∧ Rows H xs pl ∧ pl.length ≤ 2000 ∧ (∀ r ∈ pl, r.2 ∈ N.names) ∧
  ∀ d ys H', Ex TT H H' → H d = none → H' d = some (.lst ys) → Rows H' ys (sortP N pl) → Q (.ref d) H'
def latesA (h t : Int) : List Int := (List.range (h - t).toNat).map fun i => t + 1 + (i : Nat)
theorem laters_rev (h t : Int) : latersD h t = (latesA h t).reverse := by
  unfold latersD latesA
  apply List.ext_getElem?
  intro i
  by_cases hi : i < (h - t).toNat
  · rw [List.getElem?_map, List.getElem?_range hi, List.getElem?_reverse (by simpa using hi), List.getElem?_map]
    simp only [List.length_map, List.length_range]
    rw [List.getElem?_range (by omega)]
    simp only [Option.map_some]
    congr 1
    omega
  · rw [List.getElem?_eq_none (by simpa using hi), List.getElem?_eq_none (by simpa using hi)]
theorem find_last {α : Type} (p : α → Bool) (l : List α) : l.reverse.find? p = (l.filter p).getLast? := by
  rw [← List.head?_filter, List.filter_reverse, List.head?_reverse]
/-- a list of lists of refreshes -/
def ManyAt (mv : Int → Plan) (gd : Addr) (H : Hp) (y : V) (t : Int) : Prop := ∃ q ys, y = V.ref q ∧ q ≠ gd ∧ H q = some (.lst ys) ∧ Rows H ys (mv t)
theorem ManyAt.ex {mv : Int → Plan} {gd : Addr} {T : Tb} {H H' : Hp} {y : V} {t : Int} (h : ManyAt mv gd H y t) (e : Ex T H H') : ManyAt mv gd H' y t := let ⟨q, ys, a, b, c, d⟩ := h; ⟨q, ys, a, b, e.at c, d.tu e.tu⟩
theorem ManyAt.upd {mv : Int → Plan} {gd : Addr} {H : Hp} {y : V} {t : Int} {xs zs : List V} (h : ManyAt mv gd H y t) (hg : H gd = some (.lst xs)) : ManyAt mv gd (upd H gd (.lst zs)) y t := let ⟨q, ys, a, b, c, d⟩ := h; ⟨q, ys, a, b, by rw [upd_ne b]; exact c, d.tu (Tu.set hg)⟩
def plD (pl : Plan) : PyData := .list (pl.map rowD)
theorem dp_many {K : PySem.W.Frag} {mv : Int → Plan} {gd g : Addr} {H : Hp} {gs : List V} {ts : List Int} (h : H g = some (.lst gs)) (hx : Paired (ManyAt mv gd H) gs ts) : Dp K H (.ref g) (.list (ts.map fun t => plD (mv t))) :=
  .lst (SqL.of h) (dpAll_map (fun v b k => by obtain ⟨q, ys, rfl, _, c, d⟩ := k; exact dp_rows c d) hx)
theorem shaped_many {mv : Int → Plan} {ts : List Int} (h : ∀ t ∈ ts, ∀ r ∈ mv t, PyData.canLay0 (.str r.2) = true) : SeqAt.shaped (.list (ts.map fun t => plD (mv t))) = true := by
  refine shaped_list (fun t ht => ?_) fun t _ => ?_
  · unfold plD
    rw [PyData.canLay0]
    exact canAll fun r hr => row_can (h t ht r hr)
  · unfold plD
    rw [PyData.depth]
    exact Nat.succ_le_succ (depAll (k := 62) fun r _ => by simp [rowD, PyData.depth, PyData.depthAll])
def sp_l_delayed : Sp := fun vs H Q _ => ∃ v N h p xs pl p2 xs2 qs, vs = [v, .int h, .ref p, .ref p2] ∧ PartsAt H v N ∧ NetOk N ∧ LamX.Tabs TT H ∧ H p = some (.lst xs) ∧ Rows H xs pl ∧ pl.length ≤ 400 ∧ h ≤ 12 ∧ (∀ r ∈ pl, 1 ≤ r.1 ∧ r.1 ≤ h ∧ r.2 ∈ N.names) ∧ H p2 = some (.lst xs2) ∧ Paired (QryAt H) xs2 qs ∧ qs.length ≤ 20 ∧ (∀ q ∈ qs, q.2.1 ∈ N.names) ∧
  ∀ d ys H', Ex TT H H' → H' d = some (.lst ys) → Rows H' ys (delayL N h pl qs) → Q (.ref d) H'
theorem cal_l_delayed (T : Tx K mg C) (D : DefB K mg "_law_delayed" s_l_delayed ["_law_parts", "_law_horizon", "_law_plan_here", "_law_queries"]) (c_l_enough : C8.Cal P w K mg base 11 "_law_enough" (sp_l_enough TT) []) (c_l_order : C8.Cal P w K mg base 6 "_law_order" (sp_l_order TT) []) : C8.Cal P w K mg base 12 "_law_delayed" (sp_l_delayed TT) [] := by
  refine cal_of D sc_l_delayed (fun vs H Q E h => by obtain ⟨_, _, _, _, _, _, _, _, _, rfl, _⟩ := h; rfl) (fun fa cdv A outer s H vs Q E hr h => ?_)
  obtain ⟨v, N, h, p, xs, pl, p2, xs2, qs, rfl, hP, ok, hTab, hp, hx, l1, hh1, hel, hp2, hx2, lq, hqn, k⟩ := h
  have nd := sc_l_delayed.nd
  have lx := Paired.length hx
  have hpn : ∀ r ∈ pl, r.2 ∈ N.names := fun r hr => (hel r hr).2.2
  have hcanN : ∀ x ∈ N.names, PyData.canLay0 (.str x) = true := fun x hx => (ok.good _ hx).ok
  refine ⟨_, (pss_cons (ps_set (i := 4) nd rfl (Or.inl rfl) (pe_callTy call_list_of (by rfl) T.n_list (by decide +kernel) (pa_cons (pv 2) pa_nil)))
      (pss_cons (forX (ps_for PassesOwn.never rfl (pi_list (pe_revL (pv 2))) (pg_tup rfl (pgs_cons (pg_name (i := 5) nd rfl (Or.inr rfl) (by first | exact Or.inr rfl | exact Or.inl rfl)) (pgs_cons (pg_name (i := 6) nd rfl (Or.inr rfl) (by first | exact Or.inr rfl | exact Or.inl rfl)) pgs_nil)))
      (pss_cons (ps_set (i := 7) nd rfl (Or.inl rfl) (pe_lst pa_nil))
      (pss_cons (forX (ps_for PassesOwn.never rfl (pi_range2 (by rfl) T.n_range (pa_cons (pe_op op_add (pv 5) pe_int) (pa_cons (pe_op op_add (pv 1) pe_int) pa_nil))) (pg_name (i := 8) nd rfl (Or.inl rfl) (by first | exact Or.inr rfl | exact Or.inl rfl))
      (pss_cons (ps_set (i := 9) nd rfl (Or.inl rfl) (C8.pe_c c_l_order hr (by first | decide | omega) (by rfl) (pa_cons (pv 0) (pa_cons (pe_op op_cat (lcX (pe_lc (g := (gName 10)) rfl nd (pi_list (pv 4)) (blkOk_by (own := [("_law_one", 10)]) (N := N_l_delayed) (sc := C8.fnScope s_l_delayed) (by decide +kernel)) (fun _ _ _ _ _ => (pg_name (i := 10) nd rfl (Or.inl rfl) (by first | exact Or.inr rfl | exact Or.inl rfl))) (fun _ _ _ _ _ => pts_one (pt_cmpR (op_neDK (K := K) hr.units) (pv 10) (pe_tup (pa_cons (pv 5) (pa_cons (pv 6) pa_nil))) (nomark _))) (fun _ _ _ _ _ => (pv 10)))) (pe_lst (pa_cons (pe_tup (pa_cons (pv 8) (pa_cons (pv 6) pa_nil))) pa_nil))) pa_nil))))
      (pss_one (ps_if (PW.pt (pw_and (pt_cmpR (op_notInD (ux hr)) (pe_tup (pa_cons (pv 8) (pa_cons (pv 6) pa_nil))) (pv 4) rfl) (pw_and1 (pt_val (C8.pe_c c_l_enough hr (by first | decide | omega) (by rfl) (pa_cons (pv 0) (pa_cons (pv 9) (pa_cons (pv 3) pa_nil)))))))) (pss_one (ps_expr (pe_bm PySem.F.plainAttrs_list PySem.F.slot_list_append PySem.F.type_list_append mt_append (pv 7) (pa_cons (pv 9) pa_nil)))) pss_nil)))))
      (pss_one (ps_if (pt_cmpR (op_neD hr.units) (pv 7) (pe_lst pa_nil) (nomark _)) (pss_one (ps_set (i := 4) nd rfl (Or.inl rfl) (pe_ix ix_list (pv 7) (pe_un un_neg pe_int) (fun _ _ => rfl)))) pss_nil))))))
      (pss_one (ps_ret (pv 4))))), ?_⟩
  walk_at "rd"
  rename_i fa0 hfa0 H2 e2 hfa2 rp hrp H3 e3 hrp3
  have hf3 : H3 fa0 = some (.lst xs) := by walk_at "up"
  have hL : xs.reverse.length = pl.reverse.length := by rw [List.length_reverse, List.length_reverse, lx]
  have h13 : Ex TT H H3 := by walk_at "up"
  have hr3 : Rows H xs.reverse pl.reverse := Paired.rev hx
  refine for_goB (walk_list (K := K) (a := rp) (xs := xs.reverse)) (fun i σ Hc => ∃ fd ys u5 u6 u7 u8 u9, σ = [some v, some (.int h), some (.ref p), some (.ref p2), some (.ref fd), u5, u6, u7, u8, u9, none] ∧ Ex TT H Hc ∧ Hc rp = some (.lst xs.reverse) ∧ True ∧ Hc fd = some (.lst ys) ∧ Rows Hc ys ((pl.reverse.take i).foldl (delayStep N h qs) pl) ∧
    ((pl.reverse.take i).foldl (delayStep N h qs) pl).length ≤ pl.length + i ∧ ∀ x ∈ (pl.reverse.take i).foldl (delayStep N h qs) pl, x.2 ∈ N.names) ⟨fa0, xs, _, _, _, _, _, rfl, h13, hrp3, trivial, hf3, hx.tu h13.tu, Nat.le_refl _, hpn⟩ (fun i σ Hc hi ⟨_, _, _, _, _, _, _, _, _, hl, _⟩ => SqL.of hl) ?_ ?_
  · intro i y σ Hc Hc' hi ⟨fd, ys, u5, u6, u7, u8, u9, es, ec, hrp, hfd0, hfd, hys, hlen, hsub⟩ yy
    subst es
    obtain ⟨rfl, hy⟩ := yy
    rw [hL] at hi
    have hi4 : i < pl.length := by rw [List.length_reverse] at hi; exact hi
    obtain ⟨r, hrr⟩ : ∃ b, pl.reverse[i]? = some b := ⟨pl.reverse[i], List.getElem?_eq_getElem _⟩
    obtain ⟨y', hy', hrow⟩ := Paired.at hr3 hrr
    rw [hy'] at hy
    cases hy
    have hrm : r ∈ pl := List.mem_reverse.mp (List.mem_of_getElem? hrr)
    have hrn := hpn r hrm
    have hr12 := hel r hrm
    have step : (pl.reverse.take (i + 1)).foldl (delayStep N h qs) pl = delayStep N h qs ((pl.reverse.take i).foldl (delayStep N h qs) pl) r := by
      rw [List.take_add_one, hrr, List.foldl_append]
      rfl
    rw [step]
    generalize (pl.reverse.take i).foldl (delayStep N h qs) pl = st at hys hlen hsub step ⊢
    obtain ⟨ta, rfl, hta⟩ := hrow
    have hta' := ec.at hta
    have hcr := hcanN _ hrn
    walk_at "rd"
    rename_i gd hgd H4 e4 hgd4
    have lA : (latesA h r.1).length = (h + 1 - (r.1 + 1)).toNat := by unfold latesA; rw [List.length_map, List.length_range]; congr 1; omega
    have hgd0 : H gd = none := by walk_at "up"
    refine for_goB walk_range (fun j σ Hx => ∃ u8 u9 gs, σ = [some v, some (.int h), some (.ref p), some (.ref p2), some (.ref fd), some (.int r.1), some (.str r.2), some (.ref gd), u8, u9, none] ∧ Ex TT Hc' Hx ∧ Hx gd = some (.lst gs) ∧ gs.length ≤ j ∧ Paired (ManyAt (movedP N st r) gd Hx) gs (((latesA h r.1).take j).filter (moveOk N qs st r)))
      ⟨_, _, [], rfl, e4, hgd4, Nat.le_refl _, by rw [List.take_zero]; exact .nil⟩ (fun _ _ _ _ _ => trivial) ?_ ?_
    · intro j y σ Hx Hx' hj ⟨u8, u9, gs, es, ex, hgs, lgs, hmany⟩ yy
      subst es
      obtain ⟨rfl, hy⟩ := yy
      rw [← lA] at hj
      obtain ⟨t, htj⟩ : ∃ b, (latesA h r.1)[j]? = some b := ⟨(latesA h r.1)[j], List.getElem?_eq_getElem _⟩
      have hty : t = r.1 + 1 + (j : Nat) := by
        unfold latesA at htj
        rw [List.getElem?_map] at htj
        cases hq : (List.range (h - r.1).toNat)[j]? with
        | none => rw [hq] at htj; cases htj
        | some a =>
          rw [hq] at htj
          have := (List.getElem?_eq_some_iff.mp hq).2
          simp at this
          cases htj
          rw [this]
      have hy : y = V.int (r.1 + 1 + (j : Nat)) := hy
      rw [← hty] at hy
      subst hy
      have hj12 : j ≤ 100 := by
        unfold latesA at hj
        rw [List.length_map, List.length_range] at hj
        omega
      have hfdx : Hx' fd = some (.lst ys) := by walk_at "up"
      have hysx : Rows Hx' ys st := by walk_at "up"
      have hcst : ∀ x ∈ st, PyData.canLay0 (.str x.2) = true := fun x hx => hcanN _ (hsub x hx)
      have tk1 : ((latesA h r.1).take (j + 1)).filter (moveOk N qs st r) = ((latesA h r.1).take j).filter (moveOk N qs st r) ++ (if moveOk N qs st r t = true then [t] else []) := take_succ_filter _ htj
      walk_at "rd"
      refine lc_lstP (T := TT) st (RowAt Hx') hfdx hysx (by omega) (fun x => decide (x ≠ r)) (fun H' y x => RowAt H' y x) (fun y b Ha Hb t h => h.tu t) ?_ ?_
      · intro b x Hy K1 K0 hm hv e kk1 kk0
        have hb' : RowAt Hy x b := by walk_at "up"
        have hcb := hcst b hm
        walk_at "rd"
        rename_i q1 hq1 H5 e5 hq1'
        have ev : (!PyData.eqv (rowD b) (rowD r)) = decide (b ≠ r) := by rw [eqv_row]; simp
        refine ite2 (fun hc => ?_) (fun hc => ?_)
        · have hc : (!PyData.eqv (rowD b) (rowD r)) = true := hc
          rw [ev] at hc
          walk_at "rd"
          exact kk1 hc _ _ (by walk_at "up") (by walk_at "up")
        · have hc : ¬ (!PyData.eqv (rowD b) (rowD r)) = true := hc
          rw [ev] at hc
          exact kk0 (by simpa using hc) _ (by walk_at "up")
      · intro dd1 ys1 H5 hd1 he5 hd1' hR1
        have hR1 : Rows H5 ys1 (dropR st r) := hR1
        walk_at "rd"
        rename_i q2 hq2 H6 e6 hq2' q3 hq3 H7 e7 hq3'
        have ly := Paired.length hR1
        have ly2 := dropR_len st r
        have hrw6 : RowAt H7 (V.ref q2) (t, r.2) := RowAt.mk (by walk_at "up")
        have hrw5 : Rows H7 ys1 (dropR st r) := by walk_at "up"
        have hrw : Rows H7 (ys1 ++ [V.ref q2]) (dropR st r ++ [(t, r.2)]) := rows_snoc hrw5 hrw6
        have hln : (dropR st r ++ [(t, r.2)]).length ≤ 2000 := by
          rw [List.length_append, List.length_singleton]
          omega
        have hnm : ∀ x ∈ dropR st r ++ [(t, r.2)], x.2 ∈ N.names := by
          intro x hx
          rcases List.mem_append.mp hx with hx | hx
          · exact hsub x (dropR_mem hx)
          · simp at hx
            rw [hx]
            exact hrn
        refine ⟨sz5 (by simp; omega), ?_⟩
        have hml : (sortP N (dropR st r ++ [(t, r.2)])).length ≤ 1000 := by
          rw [sortP_len, List.length_append, List.length_singleton]
          omega
        have hmn : ∀ x ∈ sortP N (dropR st r ++ [(t, r.2)]), x.2 ∈ N.names := fun x hx => hnm x (sortP_mem.mp hx)
        have hany : (!(st.map rowD).any fun z => PyData.eqv z (rowD (t, r.2))) = !decide ((t, r.2) ∈ st) := by rw [rows_in]
        walk_at "rd"
        rename_i q8 hq8 H8 e8 hq8' fd2 ys2 H9 e9 hfd2 hfd2' hR2 q9 hq9 H10 e10 hq9'
        have hqry : Paired (QryAt H10) xs2 qs := Paired.imp hx2 fun _ _ z => z.tu (show Ex TT H H10 by walk_at "up").tu
        have hR10 : Rows H10 ys2 (sortP N (dropR st r ++ [(t, r.2)])) := by walk_at "up"
        have hgd10 : H10 gd = some (.lst gs) := by walk_at "up"
        have hgl : gs.length < sizeLine := sz4 (by omega)
        have skip : moveOk N qs st r t = false → ∀ {Hz : Hp}, Ex TT Hx' Hz → Paired (ManyAt (movedP N st r) gd Hz) gs (((latesA h r.1).take (j + 1)).filter (moveOk N qs st r)) := fun hm Hz ez => by
          rw [tk1, hm, if_neg Bool.false_ne_true, List.append_nil]
          exact Paired.imp hmany fun _ _ z => z.ex ez
        refine ite2 (fun hc => ?_) (fun hc => ?_)
        · have hc1 : decide ((t, r.2) ∈ st) = false := by
            have hc : (!(st.map rowD).any fun z => PyData.eqv z (rowD (t, r.2))) = true := hc
            rw [hany] at hc
            simpa using hc
          walk_at "rd"
          refine ite2 (fun hc2 => ?_) (fun hc2 => ?_)
          · have hmo : moveOk N qs st r t = true := by
              unfold moveOk movedP
              rw [hc1, hc2]
              rfl
            walk_at "rd"
            rename_i H11 e11
            have hgd11 : H11 gd = some (.lst gs) := by walk_at "up"
            refine ⟨⟨_, _, gs ++ [V.ref fd2], rfl, by walk_at "up", upd_same, by rw [List.length_append, List.length_singleton]; omega, ?_⟩⟩
            rw [tk1, hmo, if_pos rfl]
            refine Paired.appendP (Paired.imp hmany fun _ _ z => (z.ex (show Ex TT Hx' H11 by walk_at "up")).upd hgd11) (.cons ?_ .nil)
            refine ManyAt.upd ⟨fd2, ys2, rfl, ?_, by walk_at "up", ?_⟩ hgd11
            · exact Ne.symm (ne_of_at (show H8 gd = some (.lst gs) by walk_at "up") hfd2)
            · show Rows H11 ys2 (sortP N (dropR st r ++ [(t, r.2)]))
              walk_at "up"
          · have hmo : moveOk N qs st r t = false := by
              unfold moveOk movedP
              rw [hc1, show N.enough (sortP N (dropR st r ++ [(t, r.2)])) qs = false by simpa using hc2]
              rfl
            walk_at "rd"
            exact ⟨⟨_, _, gs, rfl, by walk_at "up", by walk_at "up", by omega, skip hmo (by walk_at "up")⟩⟩
        · have hc1 : decide ((t, r.2) ∈ st) = true := by
            have hc : ¬ (!(st.map rowD).any fun z => PyData.eqv z (rowD (t, r.2))) = true := hc
            rw [hany] at hc
            simpa using hc
          have hmo : moveOk N qs st r t = false := by
            unfold moveOk
            rw [hc1]
            rfl
          walk_at "rd"
          exact ⟨⟨_, _, gs, rfl, by walk_at "up", by walk_at "up", by omega, skip hmo (by walk_at "up")⟩⟩
    · rintro σ Hx ⟨u8, u9, gs, rfl, ex, hgs, lgs, hmany⟩
      rw [← lA, List.take_length] at hmany
      have hds : delayStep N h qs st r = match ((latesA h r.1).filter (moveOk N qs st r)).getLast? with | some t => movedP N st r t | none => st := by
        unfold delayStep
        rw [laters_rev, find_last] <;> rfl
      generalize (latesA h r.1).filter (moveOk N qs st r) = ts at hmany hds
      have hcan2 : ∀ t ∈ ts, ∀ x ∈ movedP N st r t, PyData.canLay0 (.str x.2) = true := fun t _ x hx => hcanN _ (moved_mem hsub hrn x hx)
      have lts := Paired.length hmany
      walk_at "rd"
      rename_i q0 hq0 H5 e5 hq0'
      have hmany5 : Paired (ManyAt (movedP N st r) gd H5) gs ts := Paired.imp hmany fun _ _ z => z.ex e5
      refine ⟨dp_many (e5.at hgs) hmany5, dp_nil (by walk_at "up"), shaped_many hcan2, shaped_nil, ?_⟩
      rcases nil_or_snoc ts with rfl | ⟨ts', t, rfl⟩
      · have hq : (!PyData.eqv (.list (([] : List Int).map fun t => plD (movedP N st r t))) (.list [])) = false := by rw [eqv_nil]; simp
        walk_at "rd"
        have e0 : delayStep N h qs st r = st := hds
        refine ⟨⟨fd, ys, _, _, _, _, _, rfl, by walk_at "up", by walk_at "up", hfd0, by walk_at "up", ?_, ?_, ?_⟩⟩
        · rw [e0]
          walk_at "up"
        · rw [e0]
          omega
        · rw [e0]
          exact hsub
      · have hq : (!PyData.eqv (.list ((ts' ++ [t]).map fun t => plD (movedP N st r t))) (.list [])) = true := by rw [eqv_nil]; simp
        have e0 : delayStep N h qs st r = movedP N st r t := by
          rw [hds, List.getLast?_append, List.getLast?_singleton]
          rfl
        rw [List.length_append, List.length_singleton] at lts
        obtain ⟨z, hz, q5, ys5, rfl, hne5, hq5, hR5⟩ := Paired.at (i := ts'.length) (b := t) hmany5 (by simp)
        have hat : atI gs (-1) = some (V.ref q5) := by
          rcases nil_or_snoc gs with rfl | ⟨g', b, rfl⟩
          · simp at lts
          · rw [List.length_append, List.length_singleton] at lts
            have lg : g'.length = ts'.length := by omega
            rw [← lg] at hz
            simp at hz
            rw [hz]
            exact atI_last _ _
        walk_at "rd"
        refine ⟨⟨q5, ys5, _, _, _, _, _, rfl, by walk_at "up", by walk_at "up", trivial, hq5, ?_, ?_, ?_⟩⟩
        · rw [e0]
          exact hR5
        · rw [e0]
          have := @moved_len N st r t
          omega
        · rw [e0]
          exact moved_mem hsub hrn
  · rintro σ Hc ⟨fd, ys, u5, u6, u7, u8, u9, rfl, ec, hrp, hfd0, hfd, hys, hlen, hsub⟩
    rw [hL, List.take_length] at hys
    walk_at "rd"
    exact k _ ys _ ec hfd hys
end
end Rf
end

set_option Elab.async false
set_option linter.all false
set_option maxRecDepth 100000
set_option maxHeartbeats 4000000
set_option pp.maxSteps 1500
section
open PySem PySem.Spec PyProof.Rows L2 Rf
local macro_rules | `(tactic| walk_at "up") => `(tactic| first | assumption | exact Ex.refl _ | exact upd_same | (apply upd_at; (focus assumption); walk_at "up") | (apply upd_at'; (focus assumption); walk_at "up") | (apply Ex.mutL; (focus (walk_at "up")); (focus (walk_at "up")); walk_at "up") | (apply Ex.mutD; (focus (walk_at "up")); (focus (walk_at "up")); walk_at "up") | (apply Ex.free'; (focus assumption); walk_at "up") | (apply Ex.atT; (focus assumption); walk_at "up") | (apply Ex.atL; (focus assumption); walk_at "up") | (apply Ex.atD; (focus assumption); walk_at "up") | (apply Ex.atI; (focus assumption); walk_at "up") | (apply Ex.atF; (focus assumption); walk_at "up") | (apply Ex.then'; (focus assumption); walk_at "up") | (apply NetAt.ex; (focus assumption); walk_at "up") | (apply PartsAt.ex; (focus assumption); walk_at "up") | (apply PlanAt.ex; (focus assumption); walk_at "up") | (apply QrsAt.ex; (focus assumption); walk_at "up") | (apply SrcD.ex; (focus assumption); walk_at "up") | (apply VwD.ex; (focus assumption); walk_at "up") | (apply SeqIs.ex; (focus assumption); walk_at "up") | (apply NetAt.ex'; (focus assumption); walk_at "up") | (apply PartsAt.ex'; (focus assumption); walk_at "up") | (apply PlanAt.ex'; (focus assumption); walk_at "up") | (apply QrsAt.ex'; (focus assumption); walk_at "up") | (apply SrcD.ex'; (focus assumption); walk_at "up") | (apply VwD.ex'; (focus assumption); walk_at "up") | (apply SeqIs.ex'; (focus assumption); walk_at "up") | (apply Ex.atT'; (focus assumption); walk_at "up") | (apply Ex.atL'; (focus assumption); walk_at "up") | (apply Ex.atD'; (focus assumption); walk_at "up") | (apply Ex.atI'; (focus assumption); walk_at "up") | (with_reducible apply FrmAt.ex'; (focus assumption); walk_at "up") | (with_reducible apply VwAt.ex'; (focus assumption); walk_at "up") | (with_reducible apply RowAt.ex'; (focus assumption); walk_at "up") | (with_reducible apply SrcAt.ex'; (focus assumption); walk_at "up") | (with_reducible apply QryAt.ex'; (focus assumption); walk_at "up") | (with_reducible apply Rows.ex'; (focus assumption); walk_at "up") | (with_reducible apply StAt.exE; (focus assumption); walk_at "up") | (with_reducible apply sqU; (focus assumption); assumption) | (with_reducible apply sqE; (focus assumption); walk_at "up") | (with_reducible apply sqM; (focus assumption); (focus (walk_at "ne")); walk_at "up") | (with_reducible apply Ex.tabs'; (focus assumption); walk_at "up") | (with_reducible apply Ex.thenM; (focus assumption); (focus (walk_at "up")); walk_at "up") | (with_reducible apply Ex.thenMM; (focus assumption); walk_at "up") | (with_reducible apply atML; (focus assumption); (focus (walk_at "ne")); walk_at "up") | (with_reducible apply atMD; (focus assumption); (focus (walk_at "ne")); walk_at "up") | (with_reducible apply atMT; (focus assumption); (focus (walk_at "ne")); walk_at "up"))
local macro_rules | `(tactic| walk_at "ne") => `(tactic| first | assumption | (apply ne_st; (focus assumption); (walk_at "up")))
local macro_rules | `(tactic| walk_at "sv") => `(tactic| first | rfl | assumption | exact Ex.refl _ | exact ClsV.ty _ | (apply TyX.base; first | exact TyOf.int _ | exact TyOf.str _ | exact TyOf.bl _ | (apply TyOf.tup; walk_at "up") | (apply TyOf.lst; walk_at "up") | (apply TyOf.dK; walk_at "up")) | exact kit_ty (by decide +kernel) | (apply Rd.of; walk_at "up") | (apply DGet_some; (focus (walk_at "up")); assumption) | (apply DGet_f; (focus (walk_at "up")); assumption) | (apply DGet_s; walk_at "up") | (apply DPut_s; (focus (walk_at "up")); omega) | (apply sz5; simp only [List.length_map, List.length_append, List.length_cons, List.length_nil]; omega) | (apply sz4; simp only [List.length_map, List.length_append, List.length_cons, List.length_nil]; omega) | (apply SqL.of; walk_at "up") | (apply SqT.of; walk_at "up") | (apply Or.inl; apply SqL.of; walk_at "up") | (apply Or.inr; apply SqT.of; walk_at "up") | (apply Exists.intro; first | (apply SqL.of; walk_at "up") | (apply SqT.of; walk_at "up")) | exact flatStrs _ | (apply dp_nil; walk_at "up") | (apply dp_strs; walk_at "up") | (apply dp_ints; walk_at "up") | (apply dp_row; walk_at "up") | (apply dp_rowL; walk_at "up") | (apply dp_rows; (focus (walk_at "up")); walk_at "up") | exact shaped_nil | exact shaped_ints | (apply shaped_strs; assumption) | (apply shaped_rows; assumption) | (apply shaped_row; assumption) | (with_reducible apply RowAt.mk; walk_at "up") | (apply tyL; walk_at "up") | (apply tyD; walk_at "up") | (with_reducible apply cmul_r; constructor <;> omega) | (with_reducible apply cmul_l; constructor <;> omega) | (with_reducible apply cdiv_i; constructor <;> omega) | walk_at "up" | (with_reducible apply ne_st; (focus assumption); walk_at "up") | omega | (dsimp only; omega) | decide | (simp only [List.length_map, List.length_append, List.length_cons, List.length_nil]; omega))
local macro_rules | `(tactic| walk_at "cn") => `(tactic| first | assumption | omega | (dsimp only; omega) | (simp only [List.length_map, List.length_append, List.length_cons, List.length_nil, List.length_reverse]; omega) | decide)
local macro_rules | `(tactic| walk_at "rd") => `(tactic| first
  | (with_reducible show LcGo _ _ _ _ _ _ _ _)
  | (with_reducible show DcGo _ _ _ _ _ _ _ _ _)
  | (with_reducible show ForGo _ _ _ _ _ _)
  | (refine allocI (fun p hp => ?_); generalize hh : upd _ _ _ = H2; have e := exNew (T := ‹Tb›) hh hp; have h := updAt hh; clear hh; walk_at "rd")
  | (apply And.intro; (focus (walk_at "sv")); walk_at "rd")
  | (apply Exists.intro; walk_at "rd")
  | (refine iteY ?_ ?_; (focus (walk_at "cn")); walk_at "rd")
  | (refine iteN ?_ ?_; (focus (walk_at "cn")); walk_at "rd")
  | (refine iteY' ?_ ?_; (focus (walk_at "cn")); walk_at "rd")
  | (refine iteN' ?_ ?_; (focus (walk_at "cn")); walk_at "rd")
  | (refine iteBt ?_ ?_; (focus (first | assumption | decide +kernel)); walk_at "rd")
  | (refine iteBf ?_ ?_; (focus (first | assumption | decide +kernel)); walk_at "rd")
  | (intro _; walk_at "rd") | skip)
namespace Rf
open NdefX LamX PySem.W
/-! ### sorted(.., key=lambda one: ..), the keys pairs of ints -/
def keyP (k : Int × Int) : PyData := .tuple [.int k.1, .int k.2]
theorem keyP_alike (a b : Int × Int) : alike (keyP a) (keyP b) = true := by simp [keyP, alike, alikeAll]
def SkAt (H : Hp) (v : V) (k : Int × Int) : Prop := ∃ t, v = V.ref t ∧ H t = some (.tup [.int k.1, .int k.2])
theorem SkAt.mono {Ha Hb : Hp} {v : V} {k : Int × Int} (h : SkAt Ha v k) (t : Tu Ha Hb) : SkAt Hb v k := let ⟨p, a, b⟩ := h; ⟨p, a, t _ _ b⟩
theorem each_reads {P : Program} {w : World} {H : Hp} {h : Heap} (ok : HOk P w H h) : ∀ {ts : List V} {us : List Value} {ks : List (Int × Int)}, Vals ts us → Paired (SkAt H) ts ks → EachIs (fun v d => ∃ as, Reads h v d as) us (ks.map keyP)
  | _, _, _, .nil, .nil => .nil
  | _, _, _, .cons r rr, .cons q qq => by
    refine .cons ?_ (each_reads ok rr qq)
    obtain ⟨t, rfl, ht⟩ := q
    cases r
    obtain ⟨_, its, rv, o, ho, hcl, n, hd⟩ := ok t _ ht
    obtain ⟨u1, u2, rfl, r1, r2⟩ := vals2 rv
    obtain ⟨t1, rfl⟩ := r1
    obtain ⟨t2, rfl⟩ := r2
    exact ⟨_, .tuple ho hcl hd (.cons (.int _ _) (.cons (.int _ _) .nil))⟩
section
variable {β : Type} {S : V → β → Prop}
def RelS (S : V → β → Prop) (u : Value) (b : β) : Prop := ∃ v, RelV v u ∧ S v b
theorem each_rel : ∀ {xs : List V} {us : List Value} {bs : List β}, Vals xs us → Paired S xs bs → EachIs (RelS S) us bs
  | _, _, _, .nil, .nil => .nil
  | _, _, _, .cons r rr, .cons q qq => .cons ⟨_, r, q⟩ (each_rel rr qq)
theorem each_back : ∀ {us : List Value} {bs : List β}, EachIs (RelS S) us bs → ∃ ys, Vals ys us ∧ Paired S ys bs
  | _, _, .nil => ⟨[], .nil, .nil⟩
  | _, _, .cons ⟨v, r, q⟩ h => let ⟨ys, rr, qq⟩ := each_back h; ⟨v :: ys, .cons r rr, .cons q qq⟩
end
section
variable {X : Cx} {pins : List (Addr × Obj)} {σ : L2.St} {H : Hp} {s : Shared}
/-- an address beyond the heap is no one's -/
structure Apart (X : Cx) (pins : List (Addr × Obj)) (n : Addr) : Prop where
  lo : n ≠ X.env.locals
  fs : n ∉ X.fs
  ce : ∀ x c, X.env.cells.lookup x = some c → c ≠ n
  pi : ∀ p ∈ X.pn ++ pins, p.1 ≠ n
  sz : X.s_0.heap.objs.size ≤ n
theorem inv_apart (I : Inv X pins σ H s) {n : Addr} (h : s.heap.objs.size ≤ n) : Apart X pins n := by
  refine ⟨fun e => ?_, I.nofs h, fun x c q e => ?_, fun p hp e => ?_, Nat.le_trans I.sz h⟩
  · exact absurd I.lt (Nat.not_lt.mpr (by rw [← e]; exact h))
  · obtain ⟨v, o, ho, _⟩ := I.cell x c q
    exact absurd (Heap.lt_size ho) (Nat.not_lt.mpr (by rw [e]; exact h))
  · exact absurd (Heap.lt_size (I.pin p hp).1) (Nat.not_lt.mpr (by rw [e]; exact h))
theorem inv_pinned (I : Inv X pins σ H s) {n : Addr} {o : Obj} (a : Apart X pins n) (h : s.heap.get? n = some o) (hn : H n = none) (hd : ∀ v, o.data ≠ .cell v) : Inv X ((n, o) :: pins) σ H s := by
  refine { I with pin := fun p hp => ?_ }
  rcases List.mem_append.mp hp with hp | hp
  · exact I.pin p (List.mem_append.mpr (.inl hp))
  · rcases List.mem_cons.mp hp with e | hp
    · subst e
      exact ⟨h, hn, a.lo, a.fs, hd⟩
    · exact I.pin p (List.mem_append.mpr (.inr hp))
theorem inv_unpin {q : Addr × Obj} (I : Inv X (q :: pins) σ H s) : Inv X pins σ H s := by
  refine { I with pin := fun p hp => I.pin p ?_ }
  rcases List.mem_append.mp hp with hp | hp
  · exact List.mem_append.mpr (.inl hp)
  · exact List.mem_append.mpr (.inr (List.mem_cons_of_mem _ hp))
/-- the key store is gone, the list at a is a new one -/
theorem inv_sorted {kS a : Addr} {ys : List V} {out : List Value} {c tk : Nat} {h' : Heap} (I : Inv X pins σ H s) (hk : Apart X pins kS) (ha : Apart X pins a) (nk : H kS = none) (na : H a = none) (k : ∀ b o, b ≠ a → b ≠ kS → s.heap.get? b = some o → h'.get? b = some o)
    (hat : h'.get? a = some (seqObj "list" out.toArray c)) (rv : Vals ys out) (hz : ys.length ≤ sizeLine) : Inv X pins σ (upd H a (.lst ys)) { s with heap := h', toks := tk } := by
  have ne : ∀ b u, H b = some u → b ≠ a ∧ b ≠ kS := fun b u e => ⟨ne_of_none e na, ne_of_none e nk⟩
  have out2 : ∀ b, b ∉ [kS, a] → b ≠ a ∧ b ≠ kS := fun b hb => by
    simp at hb
    exact ⟨hb.2, hb.1⟩
  refine I.step (g' := s.gens) (d' := s.drawn) (ch := [kS, a]) (fun b hb => ?_) (fun b o _ _ hc e _ => k b o (out2 b hc).1 (out2 b hc).2 e) (fun b o _ _ hc e _ => ⟨o.slots, k b o (out2 b hc).1 (out2 b hc).2 e⟩)
    (fun b o hc _ n => by rw [upd_ne (out2 b hc).1]; exact n) (fun b o hc e => ⟨o, k b o (out2 b hc).1 (out2 b hc).2 e⟩) (fun b xs e => by rw [upd_ne (ne b _ e).1]; exact e) (fun b o u e => by rw [upd_ne (ne b _ e).1]; exact e)
    (fun b ps e => ⟨#[], by rw [upd_ne (ne b _ e).1, e]; simp⟩) (fun m hm => ?_) (fun b u e => ?_) I.bare
  · have hb : b = kS ∨ b = a := by simpa using hb
    rcases hb with rfl | rfl
    · exact ⟨.inr hk.sz, hk.lo, hk.ce, hk.pi⟩
    · exact ⟨.inr ha.sz, ha.lo, ha.ce, ha.pi⟩
  · obtain ⟨o, es, ep, ho, r⟩ := hm
    exact ⟨o, es, ep, k _ o (Ne.symm ha.lo) (Ne.symm hk.lo) ho, r⟩
  · by_cases hb : b = a
    · rw [hb, upd_same] at e
      cases e
      rw [hb]
      exact ⟨hz, out, c, rv, hat⟩
    · rw [upd_ne hb] at e
      refine (I.hok b u e).stay (fun d v hd q => k d v ?_ ?_ q) (fun d q => by rw [upd_ne (ne d _ q).1]; exact q) fun d xs q => by rw [upd_ne (ne d _ q).1]; exact q
      · rcases hd with rfl | hd
        · exact hb
        · exact (ne d _ hd).1
      · rcases hd with rfl | hd
        · exact (ne _ _ e).2
        · exact (ne d _ hd).2
/-- while the keys are made -/
structure Sorting (X : Cx) (pins : List (Addr × Obj)) (σ : L2.St) (T : Tb) (H : Hp) (kS a : Addr) (e1 : Nat) (ks : List (Int × Int)) (s' : Shared) : Prop where
  ex : ∃ (H' : Hp) (kA : Array Value) (e : Nat) (ts : List V), Inv X pins σ H' s' ∧ Ex T H H' ∧ H' kS = none ∧ H' a = none ∧ s'.heap.get? kS = some (seqObj "list" kA e) ∧ s'.heap.get? a = some (seqObj "list" #[] e1) ∧ Vals ts kA.toList ∧ Paired (SkAt H') ts ks
theorem sort_run {T : Tb} {f l : Addr} {F : NF} {e : Expr} {a0 : Str} {fr : List Str} {js : List Nat} {sp : List (Option V) → Sp} {k : Nat} {xs : List V} {β : Type} {bs : List β} {kf : β → Int × Int} {S : V → β → Prop} {Q : VK} (I : Inv X pins σ H s) (hl : H l = some (.lst xs)) (hx : Paired S xs bs) (hn : bs.length ≤ 40000)
    (hf : H f = some (LamO f F e)) (hc : H F.c = some (CodeO F.c F.qual)) (LO : LOk X.prog X.w X.K X.mg X.base C8.CX0 k f F e [a0] fr sp) (cp : Caps X F.cl fr js) (hr : Room (k + 2) X.A)
    (turn : ∀ x b Hc (K1 : VK), b ∈ bs → S x b → Ex T H Hc → (∀ t H4, Ex T Hc H4 → H4 t = some (.tup [.int (kf b).1, .int (kf b).2]) → K1 (.ref t) H4) → sp (js.map (slotAt σ)) [x] Hc K1 C8.E0)
    (done : ∀ p ys H2, H p = none → Ex T H H2 → H2 p = some (.lst ys) → Paired S ys (bs.mergeSort (dataLe false fun b => keyP (kf b))) → Q (.ref p) H2) :
    wpAny (model X.prog X.w) X.A (call (.builtin "sorted") [.ref l] [(Str.ofString "key", .ref f)]) (EP X pins σ Q) X.xe s := by
  obtain ⟨its, rv, hL, hz⟩ := I.list (SqL.of hl)
  have lv := rv.length
  have lx := Paired.length hx
  have hZ : its.length ≤ sizeLine := by rw [← lv]; exact hz
  have hal : AllAlike ((bs.map kf).map keyP) := fun d hd d' hd' => by
    obtain ⟨b, _, rfl⟩ := List.mem_map.mp hd
    obtain ⟨b', _, rfl⟩ := List.mem_map.mp hd'
    exact keyP_alike _ _
  have hsk : Sortable ((bs.map kf).map keyP) := .inl fun d hd => by
    obtain ⟨b, _, rfl⟩ := List.mem_map.mp hd
    exact ⟨_, _, rfl⟩
  have hu : ∀ d, d ∈ (bs.map kf).map keyP → X.A.in1.in1.units + d.depth < cLine := fun d hd => by
    obtain ⟨b, _, rfl⟩ := List.mem_map.mp hd
    have h1 := hr.un
    have h2 : (keyP b).depth ≤ 63 := by simp [keyP, PyData.depth, PyData.depthAll]
    show X.A.units + 1 + 1 + _ < cLine
    omega
  refine sorted_of_sort hL.isList hZ (PyProof.Rows.ksk_s1 _ _) (fun _ => PyProof.Rows.ksk_l1 _ _) fun E' => ?_
  rw [ksk_t1]
  have szC : (copyHeap s.heap its).objs.size = s.heap.objs.size + 2 := by
    unfold copyHeap
    rw [size_push', Heap.size_update, size_push']
  have hcp := copyHeap_at s.heap its
  obtain ⟨a, ea⟩ : ∃ a, a = s.heap.objs.size + 1 := ⟨_, rfl⟩
  rw [← ea] at hcp ⊢
  obtain ⟨e1, ho1⟩ : ∃ e1, ((copyHeap s.heap its).update a (Obj.mapSeq fun _ => (#[] : Array Value))).get? a = some (seqObj "list" #[] e1) := ⟨_, get?_update_seq hcp fun _ => #[]⟩
  have szU : ((copyHeap s.heap its).update a (Obj.mapSeq fun _ => (#[] : Array Value))).objs.size = s.heap.objs.size + 2 := by rw [Heap.size_update, szC]
  unfold ksk_tree
  refine wpAny_bind (listItems_at hcp rfl ?_)
  refine wpAny_bind (listUpdate_at hcp rfl ?_ (by rw [List.size_toArray]; exact hZ) (Nat.zero_le _))
  refine wpAny_bind (seqEpoch_at ho1 rfl ?_)
  refine wpAny_bind (wpAny_newTuple ?_ (by show its.length ≤ _; exact hZ))
  refine wpAny_bind (wpAny_newList ?_ (Nat.zero_le _))
  refine wpAny_holding ?_
  have szT : (((copyHeap s.heap its).update a (Obj.mapSeq fun _ => (#[] : Array Value))).push (seqObj "tuple" its.toArray 0)).objs.size = s.heap.objs.size + 3 := by rw [size_push', szU]
  have kp0 : ∀ b o, s.heap.get? b = some o → ((((copyHeap s.heap its).update a (Obj.mapSeq fun _ => (#[] : Array Value))).push (seqObj "tuple" its.toArray 0)).push (seqObj "list" #[] 0)).get? b = some o := fun b o q => by
    have := Heap.lt_size q
    refine Heap.get?_push_of_some _ (Heap.get?_push_of_some _ ?_)
    rw [Heap.get?_update_ne _ _ _ _ (by rw [ea]; exact Nat.ne_of_lt (Nat.lt_succ_of_lt this))]
    exact copyHeap_old q
  have aA : Apart X pins a := inv_apart I (by first | (rw [ea]; omega) | (rw [eK, szT]; omega))
  have nA : H a = none := I.hok.fresh (by first | (rw [ea]; omega) | (rw [eK, szT]; omega))
  have hatA : ((((copyHeap s.heap its).update a (Obj.mapSeq fun _ => (#[] : Array Value))).push (seqObj "tuple" its.toArray 0)).push (seqObj "list" #[] 0)).get? a = some (seqObj "list" #[] e1) := Heap.get?_push_of_some _ (Heap.get?_push_of_some _ ho1)
  obtain ⟨kS, eK⟩ : ∃ kS, kS = (((copyHeap s.heap its).update a (Obj.mapSeq fun _ => (#[] : Array Value))).push (seqObj "tuple" its.toArray 0)).objs.size := ⟨_, rfl⟩
  have aK : Apart X pins kS := inv_apart I (by first | (rw [ea]; omega) | (rw [eK, szT]; omega))
  have nK : H kS = none := I.hok.fresh (by first | (rw [ea]; omega) | (rw [eK, szT]; omega))
  have hatK : ((((copyHeap s.heap its).update a (Obj.mapSeq fun _ => (#[] : Array Value))).push (seqObj "tuple" its.toArray 0)).push (seqObj "list" #[] 0)).get? kS = some (seqObj "list" #[] 0) := by
    rw [eK]
    exact Heap.get?_push_size _ rfl
  have nKA : kS ≠ a := by rw [eK, szT, ea]; exact Nat.ne_of_gt (by omega)
  show wpAny _ _ (ksk_rest a (.ref f) false its.toArray e1 (.ref (((copyHeap s.heap its).update a (Obj.mapSeq fun _ => (#[] : Array Value))).push (seqObj "tuple" its.toArray 0)).objs.size)) _ _ _
  rw [← eK]
  have I0 : Inv X pins σ H { s with heap := (((copyHeap s.heap its).update a (Obj.mapSeq fun _ => (#[] : Array Value))).push (seqObj "tuple" its.toArray 0)).push (seqObj "list" #[] 0) } := I.kept (t' := s.toks) kp0
  unfold ksk_rest
  refine wpAny_bind (wpAny_rule ?_)
  rw [List.forIn_toArray]
  refine wpAny_bind (ksk_fold (fun i s' => Sorting X pins σ T H kS a e1 ((bs.map kf).take i) s') its 0 _ ⟨H, #[], 0, [], I0, Ex.refl _, nK, nA, hatK, hatA, .nil, by rw [List.take_zero]; exact .nil⟩ ?step ?fin)
  case step =>
    intro j u s' hu' hS
    obtain ⟨H', kA, ep, ts, I1, e01, nK1, nA1, k1, a1, rts, hts⟩ := hS.ex
    simp only [Nat.zero_add] at hts ⊢
    have hj : j < its.length := (List.getElem?_eq_some_iff.mp hu').1
    obtain ⟨x, hxj, rx⟩ : ∃ x, xs[j]? = some x ∧ RelV x u := by
      obtain ⟨x, hxj⟩ : ∃ x, xs[j]? = some x := ⟨_, List.getElem?_eq_getElem (by omega)⟩
      obtain ⟨u', q1, q2⟩ := rv.get hxj
      rw [hu'] at q1
      cases q1
      exact ⟨x, hxj, q2⟩
    obtain ⟨b, hbj⟩ : ∃ b, bs[j]? = some b := ⟨_, List.getElem?_eq_getElem (by omega)⟩
    obtain ⟨x', q1, hS1⟩ := Paired.at hx hbj
    rw [hxj] at q1
    cases q1
    have hkj : (bs.map kf)[j]? = some (kf b) := by rw [List.getElem?_map, hbj] <;> rfl
    have J := inv_pinned (n := kS) (o := seqObj "list" kA ep) (inv_pinned I1 aA a1 nA1 (fun v z => by cases z)) ⟨aK.lo, aK.fs, aK.ce, fun p hp => by
      rcases List.mem_append.mp hp with hp | hp
      · exact aK.pi p (List.mem_append.mpr (.inl hp))
      · rcases List.mem_cons.mp hp with z | hp
        · rw [z]; exact Ne.symm nKA
        · exact aK.pi p (List.mem_append.mpr (.inr hp)), aK.sz⟩ k1 nK1 (fun v z => by cases z)
    have e0 : Env0 X.prog X.w X.K X.mg X.base X.A.in1.in1 X.stack s' H' := { J.env0 with frames := J.env0.frames }
    have run := LO.run X.A.in1.in1 X.stack s' H' [u] [x] (js.map (slotAt σ)) (fun y H4 => Ex T H' H4 ∧ SkAt H4 y (kf b)) C8.E0 hr.in1.in1 e0 (e01.at hf rfl) (e01.at hc rfl) (cells_of J cp) (.cons rx .nil) rfl
      (turn x b H' _ (List.mem_of_getElem? hbj) hS1 e01 fun t H4 ex ht => ⟨ex, t, rfl, ht⟩)
    have cl : wpAny (model X.prog X.w) X.A.in1.in1 (call (.ref f) [u]) (EP X ((kS, seqObj "list" kA ep) :: (a, seqObj "list" #[] e1) :: pins) σ fun y H4 => Ex T H' H4 ∧ SkAt H4 y (kf b)) (fun _ _ => False) s' := by
      refine wpAny_call (codeAny_mono run fun r s'' hq => ?_)
      cases r with
      | error z => exact (show False from hq).elim
      | ok fl =>
        cases fl with
        | ret v => exact J.after hq
        | next => exact False.elim hq
        | brk => exact False.elim hq
        | cont => exact False.elim hq
    refine wpAny_bind (wpAny_attempt (wpAny_mono cl (fun v s'' hv => ?_) fun _ _ z => z.elim))
    obtain ⟨y, H4, J4, ry, ex4, hky⟩ := hv
    obtain ⟨pk1, pk2, _⟩ := J4.pin (kS, seqObj "list" kA ep) (List.mem_append.mpr (.inr List.mem_cons_self))
    obtain ⟨pa1, pa2, _⟩ := J4.pin (a, seqObj "list" #[] e1) (List.mem_append.mpr (.inr (List.mem_cons_of_mem _ List.mem_cons_self)))
    have J5 := inv_unpin (inv_unpin J4)
    have lts : kA.size = j := by
      have h1 := rts.length
      have h2 := Paired.length hts
      rw [List.length_take, List.length_map] at h2
      have h3 : kA.toList.length = kA.size := Array.length_toList
      have h4 : ts.length = kA.toList.length := h1
      omega
    have sb := Heap.SameBut.update s''.heap kS (Obj.mapSeq (·.push v))
    obtain ⟨c2, hc2⟩ : ∃ c2, (s''.heap.update kS (Obj.mapSeq (·.push v))).get? kS = some (seqObj "list" (kA.push v) c2) := ⟨_, get?_update_seq pk1 (·.push v)⟩
    have ek : (bs.map kf).take (j + 1) = (bs.map kf).take j ++ [kf b] := by rw [List.take_add_one, hkj]; simp
    refine wpAny_bind (listUpdate_at pk1 rfl ?_ (by omega) (by rw [Array.size_push]; omega))
    refine wpAny_pure ⟨rfl, ⟨H4, kA.push v, c2, ts ++ [y], J5.turned (t' := s''.toks) (it := kS) (fun b o hb q => (sb.2 b hb).trans q) pk2 aK.lo (.inr aK.sz) aK.ce aK.pi, e01.trans ex4, pk2, pa2, hc2, (sb.2 a (Ne.symm nKA)).trans pa1, ?_, ?_⟩⟩
    · rw [Array.toList_push]
      exact rts.append (.cons ry .nil)
    · rw [ek]
      exact Paired.appendP (Paired.imp hts fun _ _ z => z.mono ex4.tu) (.cons hky .nil)
  case fin =>
    intro s' hS
    obtain ⟨H', kA, ep, ts, I1, e01, nK1, nA1, k1, a1, rts, hts⟩ := hS.ex
    have full : (bs.map kf).take (0 + its.length) = bs.map kf := List.take_of_length_le (by rw [List.length_map]; omega)
    rw [full] at hts
    have hrd := each_reads I1.hok rts hts
    have ksz : kA.size = its.length := by
      have h1 := rts.length
      have h2 := Paired.length hts
      rw [List.length_map] at h2
      have h3 : kA.toList.length = kA.size := Array.length_toList
      have h4 : ts.length = kA.toList.length := h1
      omega
    refine wpAny_bind (listItems_at k1 rfl ?_)
    refine keyH_end (κ := dataKind s'.heap ((bs.map kf).map keyP)) (h₁ := hideAll s'.heap [kS]) (fun b o _ q => of_hideAll _ q) (hideAll_none _ List.mem_cons_self) k1 a1 nKA (SortsAt.data (s := s') hrd hal hsk hu) ksz hZ fun h3 tk3 c k3 n3 => ⟨rfl, ?_⟩
    have hR := each_rel (S := S) rv hx
    have hko : KeyedOut false (bs.map fun b => keyP (kf b)) its (sortVals (dataKind s'.heap ((bs.map kf).map keyP)) false kA.toList its) := by
      rw [← show (bs.map kf).map keyP = bs.map fun b => keyP (kf b) by rw [List.map_map]; rfl]
      exact ⟨s'.heap, kA.toList, hal, rfl, hrd⟩
    obtain ⟨ys, ry, hy⟩ := each_back (keyedOut_each (R := RelS S) (fun b => keyP (kf b)) hko hR)
    have ly : ys.length ≤ sizeLine := by
      have h1 := Paired.length hy
      rw [List.length_mergeSort] at h1
      exact Nat.le_trans (by omega) (sz5 hn)
    have J := inv_sorted (tk := tk3) (h' := h3) I1 aK aA nK1 nA1 (fun b o h1 h2 q => k3 b o h1 (hideAll_get _ q (by simpa using h2))) n3 ry ly
    refine ⟨.ref a, _, J, rfl, done a ys _ nA (e01.trans (Ex.new nA1)) upd_same hy⟩
end
/-- the reading of sorted(.., key=lambda a: ..), tb its body's -/
def SoGo (T : Tb) (N : List Str) (js : List Nat) (tb : TE) (σ : L2.St) (H : Hp) (Q : VK) (x : V) : Prop := ∃ (l : Addr) (xs : List V) (bs : List (Int × Str)) (kf : Int × Str → Int × Int) (S : V → Int × Str → Prop), x = .ref l ∧ H l = some (.lst xs) ∧ Paired S xs bs ∧ bs.length ≤ 40000 ∧ Tabs T H ∧
  (∀ x b Hc (K1 : VK), b ∈ bs → S x b → Ex T H Hc → (∀ t H4, Ex T Hc H4 → H4 t = some (.tup [.int (kf b).1, .int (kf b).2]) → K1 (.ref t) H4) → tb (startF N [x] (js.map (slotAt σ))) Hc K1) ∧
  (∀ p ys H2, H p = none → Ex T H H2 → H2 p = some (.lst ys) → Paired S ys (bs.mergeSort (dataLe false fun b => keyP (kf b))) → Q (.ref p) H2)
def tSortL (T : Tb) (N : List Str) (js : List Nat) (te tb : TE) : TE := fun σ H Q => te σ H fun x H1 => SoGo T N js tb σ H1 Q x
def tLam3 (T : Tb) (mk : Addr → NF) (body : Expr) : TE := fun _ H Q => Tabs T H ∧ ∀ (f c' : Addr) (H1 : Hp), Ex T H H1 → Tabs T H1 → H f = none → H1 f = some (LamO f (mk c') body) → H1 c' = some (CodeO c' (mk c').qual) → Q (.ref f) H1
theorem pe_lam3 {X : Cx} {T : Tb} {c Pt : Addr} {fr : List Str} {params : Arguments} {body : Expr} {scope : Scope} {lpos : Pos} (TB : TabB X.base X.mg c Pt) (hcode : X.env.code = .ref c) (hmT : (Pt, X.env.qual ++ "<lambda>") ∈ T) (hu : ∀ p ∈ T, p.1 = Pt → p.2 = X.env.qual ++ "<lambda>")
    (hdef : defaultsOf params X.env = ([], [])) (hfree : ndefB X.env.scope scope fr = true) : PE X (.Lambda params body scope lpos) (tLam3 T (LF X.env.qual X.env.cells params scope) body) := by
  refine ⟨fun pins s σ H Q I h => ?_⟩
  have hf := ndef_free hfree
  exact lam3 I TB hcode hmT hu h.1 hdef (fun y hy e => (hf y hy e).elim (fun z => I.ok.has _ (.inl z)) fun z => I.ok.has _ (.inr z)) fun f c' H1 s' I1 ex tb f0 f1 c1 => ⟨.ref f, H1, I1, rfl, h.2 f c' H1 ex tb f0 f1 c1⟩
def one1 (R : V → Prop) : List V → Prop
  | [x] => R x
  | _ => False
theorem pe_sortL {X : Cx} {T : Tb} {c Pt : Addr} {k : Nat} {N fr : List Str} {js : List Nat} {a0 : Str} {params : Arguments} {e body : Expr} {scope : Scope} {te tb : TE} {p lpos kpos pos : Pos} (he : PE X e te) (hg : Gl X "sorted") (hm : X.mg "sorted" = none) (TB : TabB X.base X.mg c Pt) (hcode : X.env.code = .ref c)
    (hmT : (Pt, X.env.qual ++ "<lambda>") ∈ T) (hu : ∀ p ∈ T, p.1 = Pt → p.2 = X.env.qual ++ "<lambda>") (hdef : defaultsOf params X.env = ([], [])) (SN : NScope N [a0] fr scope) (hfree : ndefB X.env.scope scope fr = true) (hjs : js.map (fun j => X.N[j]?) = fr.map some) (hr : Room (k + 3) X.A)
    (hbind : ∀ (q : Str) (cl : List (Str × Addr)) (pm cv ctv : Value) (us : List Value), us.length = 1 → bindArgs (kla_fn "<lambda>" q params body scope cl pm cv ctv) ⟨us, []⟩ = pure ([a0].zip us))
    (hbody : ∀ (q : Str) (cells : List (Str × Addr)) (c' f : Addr) (A : Around) (outer : List Env) (s : Shared) (H : Hp) (E : XK), Room k (A.deeper (envF (LF q cells params scope c') f s.heap.objs.size)) → PE (ncx C8.CX0 X.prog X.w X.K X.mg X.base N (LF q cells params scope c') f A outer s H E) body tb)
    (hse : starEach [e] X.env = (false, eval e X.env) :: starEach [] X.env := by rfl) (hst : backTo pos (starEach [e] X.env) = (false, eval e X.env) :: backTo pos (starEach [] X.env) := by rfl) (hpl : (backTo pos (starEach [e] X.env)).any (·.1) = false := by rfl) :
    PE X (.Call (.Name "sorted" p) [e] [⟨some "key", .Lambda params body scope lpos, kpos⟩] pos) (tSortL T N js te tb) := by
  refine ⟨fun pins s σ H Q I h => ?_⟩
  refine wpAny_Call_Name_kw (ld_blt I hg hm (u := .builtin "sorted") (by rfl) ?_)
  refine PyProof.Rows.callWith_kw (e := e) (rest := []) (kws := [⟨some "key", .Lambda params body scope lpos, kpos⟩])
    (thn ((pa_cons he pa_nil hse).run pos pins s σ H (fun vs H1 => one1 (SoGo T N js tb σ H1 Q) vs) I h) fun us s1 hv => ?_) hst hpl (by rfl) (by rfl)
  obtain ⟨vs, H1, I1, r1, q1⟩ := hv
  obtain ⟨x, rfl, q1⟩ : ∃ x, vs = [x] ∧ SoGo T N js tb σ H1 Q x := by
    match vs, q1 with
    | [x], q => exact ⟨x, rfl, q⟩
  obtain ⟨l, xs, bs, kf, S, rfl, hl, hx, hn, hT, turn, done⟩ := q1
  obtain rfl := Vals.ref1 r1
  have lam : PE X (.Lambda params body scope lpos) _ := pe_lam3 (fr := fr) TB hcode hmT hu hdef hfree
  refine thn ((pk_cons (kpos := kpos) (nm := some "key") lam pk_nil).run pos pins s1 σ H1 (fun zs H2 => ∃ f c', zs = [.ref f] ∧ Ex T H1 H2 ∧ H2 f = some (LamO f (LF X.env.qual X.env.cells params scope c') body) ∧ H2 c' = some (CodeO c' (X.env.qual ++ "<lambda>"))) I1
    ⟨hT, fun f c' H2 ex tb f0 f1 c1 => ⟨f, c', rfl, ex, f1, c1⟩⟩) fun ws s2 hv => ?_
  obtain ⟨zs, H2, I2, r2, f, c', rfl, ex, hf, hc⟩ := hv
  obtain rfl := Vals.ref1 r2
  have hfr := ndef_fr hfree
  refine sort_run (T := T) (F := LF X.env.qual X.env.cells params scope c') (e := body) (a0 := a0) (fr := fr) (js := js) (k := k + 1) (kf := kf) (sp := fun ws vs H Q _ => tb (startF N vs ws) H Q) I2 (ex.at hl) hx hn hf hc
    (lok_of (N := N) SN (fun pm ctv us hl => hbind _ _ pm _ ctv us hl) fun A outer s H vs ws Q E hr2 _ hsp => ⟨tb, hbody _ _ c' f A outer s H E hr2, hsp⟩)
    (Caps.made I2.ok (ndef_free hfree) hfr hjs) hr ?_ ?_
  · intro x b Hc K1 hb hs e1 k1
    exact turn x b Hc K1 hb hs (ex.trans e1) k1
  · intro p ys H3 hp e1 h1 h2
    exact done p ys H3 (ex.free hp) (ex.trans e1) h1 h2
end Rf
end

set_option Elab.async false
set_option linter.all false
set_option maxRecDepth 100000
set_option maxHeartbeats 4000000
set_option pp.maxSteps 1500
section
open PySem PySem.Spec PyProof.Rows L2 Rf
local macro_rules | `(tactic| walk_at "up") => `(tactic| first | assumption | exact Ex.refl _ | exact upd_same | (apply upd_at; (focus assumption); walk_at "up") | (apply upd_at'; (focus assumption); walk_at "up") | (apply Ex.mutL; (focus (walk_at "up")); (focus (walk_at "up")); walk_at "up") | (apply Ex.mutD; (focus (walk_at "up")); (focus (walk_at "up")); walk_at "up") | (apply Ex.free'; (focus assumption); walk_at "up") | (apply Ex.atT; (focus assumption); walk_at "up") | (apply Ex.atL; (focus assumption); walk_at "up") | (apply Ex.atD; (focus assumption); walk_at "up") | (apply Ex.atI; (focus assumption); walk_at "up") | (apply Ex.atF; (focus assumption); walk_at "up") | (apply Ex.then'; (focus assumption); walk_at "up") | (apply NetAt.ex; (focus assumption); walk_at "up") | (apply PartsAt.ex; (focus assumption); walk_at "up") | (apply PlanAt.ex; (focus assumption); walk_at "up") | (apply QrsAt.ex; (focus assumption); walk_at "up") | (apply SrcD.ex; (focus assumption); walk_at "up") | (apply VwD.ex; (focus assumption); walk_at "up") | (apply SeqIs.ex; (focus assumption); walk_at "up") | (apply NetAt.ex'; (focus assumption); walk_at "up") | (apply PartsAt.ex'; (focus assumption); walk_at "up") | (apply PlanAt.ex'; (focus assumption); walk_at "up") | (apply QrsAt.ex'; (focus assumption); walk_at "up") | (apply SrcD.ex'; (focus assumption); walk_at "up") | (apply VwD.ex'; (focus assumption); walk_at "up") | (apply SeqIs.ex'; (focus assumption); walk_at "up") | (apply Ex.atT'; (focus assumption); walk_at "up") | (apply Ex.atL'; (focus assumption); walk_at "up") | (apply Ex.atD'; (focus assumption); walk_at "up") | (apply Ex.atI'; (focus assumption); walk_at "up") | (with_reducible apply FrmAt.ex'; (focus assumption); walk_at "up") | (with_reducible apply VwAt.ex'; (focus assumption); walk_at "up") | (with_reducible apply RowAt.ex'; (focus assumption); walk_at "up") | (with_reducible apply SrcAt.ex'; (focus assumption); walk_at "up") | (with_reducible apply QryAt.ex'; (focus assumption); walk_at "up") | (with_reducible apply Rows.ex'; (focus assumption); walk_at "up") | (with_reducible apply StAt.exE; (focus assumption); walk_at "up") | (with_reducible apply sqU; (focus assumption); assumption) | (with_reducible apply sqE; (focus assumption); walk_at "up") | (with_reducible apply sqM; (focus assumption); (focus (walk_at "ne")); walk_at "up") | (with_reducible apply Ex.tabs'; (focus assumption); walk_at "up") | (with_reducible apply Ex.thenM; (focus assumption); (focus (walk_at "up")); walk_at "up") | (with_reducible apply Ex.thenMM; (focus assumption); walk_at "up") | (with_reducible apply atML; (focus assumption); (focus (walk_at "ne")); walk_at "up") | (with_reducible apply atMD; (focus assumption); (focus (walk_at "ne")); walk_at "up") | (with_reducible apply atMT; (focus assumption); (focus (walk_at "ne")); walk_at "up"))
local macro_rules | `(tactic| walk_at "ne") => `(tactic| first | assumption | (apply ne_st; (focus assumption); (walk_at "up")))
local macro_rules | `(tactic| walk_at "sv") => `(tactic| first | rfl | assumption | exact Ex.refl _ | exact ClsV.ty _ | (apply TyX.base; first | exact TyOf.int _ | exact TyOf.str _ | exact TyOf.bl _ | (apply TyOf.tup; walk_at "up") | (apply TyOf.lst; walk_at "up") | (apply TyOf.dK; walk_at "up")) | exact kit_ty (by decide +kernel) | (apply Rd.of; walk_at "up") | (apply DGet_some; (focus (walk_at "up")); assumption) | (apply DGet_f; (focus (walk_at "up")); assumption) | (apply DGet_s; walk_at "up") | (apply DPut_s; (focus (walk_at "up")); omega) | (apply sz5; simp only [List.length_map, List.length_append, List.length_cons, List.length_nil]; omega) | (apply sz4; simp only [List.length_map, List.length_append, List.length_cons, List.length_nil]; omega) | (apply SqL.of; walk_at "up") | (apply SqT.of; walk_at "up") | (apply Or.inl; apply SqL.of; walk_at "up") | (apply Or.inr; apply SqT.of; walk_at "up") | (apply Exists.intro; first | (apply SqL.of; walk_at "up") | (apply SqT.of; walk_at "up")) | exact flatStrs _ | (apply dp_nil; walk_at "up") | (apply dp_strs; walk_at "up") | (apply dp_ints; walk_at "up") | (apply dp_row; walk_at "up") | (apply dp_rowL; walk_at "up") | (apply dp_rows; (focus (walk_at "up")); walk_at "up") | exact shaped_nil | exact shaped_ints | (apply shaped_strs; assumption) | (apply shaped_rows; assumption) | (apply shaped_row; assumption) | (with_reducible apply RowAt.mk; walk_at "up") | (apply tyL; walk_at "up") | (apply tyD; walk_at "up") | (with_reducible apply cmul_r; constructor <;> omega) | (with_reducible apply cmul_l; constructor <;> omega) | (with_reducible apply cdiv_i; constructor <;> omega) | walk_at "up" | (with_reducible apply ne_st; (focus assumption); walk_at "up") | omega | (dsimp only; omega) | decide | (simp only [List.length_map, List.length_append, List.length_cons, List.length_nil]; omega))
local macro_rules | `(tactic| walk_at "cn") => `(tactic| first | assumption | omega | (dsimp only; omega) | (simp only [List.length_map, List.length_append, List.length_cons, List.length_nil, List.length_reverse]; omega) | decide)
local macro_rules | `(tactic| walk_at "rd") => `(tactic| first
  | (with_reducible show LcGo _ _ _ _ _ _ _ _)
  | (with_reducible show DcGo _ _ _ _ _ _ _ _ _)
  | (with_reducible show ForGo _ _ _ _ _ _)
  | (refine allocI (fun p hp => ?_); generalize hh : upd _ _ _ = H2; have e := exNew (T := ‹Tb›) hh hp; have h := updAt hh; clear hh; walk_at "rd")
  | (apply And.intro; (focus (walk_at "sv")); walk_at "rd")
  | (apply Exists.intro; walk_at "rd")
  | (refine iteY ?_ ?_; (focus (walk_at "cn")); walk_at "rd")
  | (refine iteN ?_ ?_; (focus (walk_at "cn")); walk_at "rd")
  | (refine iteY' ?_ ?_; (focus (walk_at "cn")); walk_at "rd")
  | (refine iteN' ?_ ?_; (focus (walk_at "cn")); walk_at "rd")
  | (refine iteBt ?_ ?_; (focus (first | assumption | decide +kernel)); walk_at "rd")
  | (refine iteBf ?_ ?_; (focus (first | assumption | decide +kernel)); walk_at "rd")
  | (intro _; walk_at "rd") | skip)
namespace Rf
open NdefX LamX
/-- a def of the text that makes lambdas: its code object's table is told in TT -/
def LamB (K : PySem.W.Frag) (mg : Str → Option Value) (base : Heap) (TT : Tb) (x : Str) (st : Stmt) (ps : List Str) : Prop := ∃ f fd c Pt, C8.Def K mg x st f fd ∧ Binds K fd ps [] ∧ fd.code = .ref c ∧ TabB base mg c Pt ∧ (Pt, x ++ (".<locals>." : Str) ++ ("<lambda>" : Str)) ∈ TT ∧ ∀ p ∈ TT, p.1 = Pt → p.2 = x ++ (".<locals>." : Str) ++ ("<lambda>" : Str)
section defs
variable {P : Program} {w : World} {K : PySem.W.Frag} {mg : Str → Option Value} {base : Heap} {TT : Tb}
theorem cal_ofL {x : Str} {st : Stmt} {N ps : List Str} {k : Nat} {sp : Sp} (D : LamB K mg base TT x st ps) (S : FnScope N ps (C8.fnScope st)) (len : ∀ vs H Q E, sp vs H Q E → vs.length = ps.length)
    (hbody : ∀ (f c Pt : Addr) (A : Around) (outer : List Env) (s : Shared) (H : Hp) (vs : List V) (Q : VK) (E : XK), TabB base mg c Pt → (Pt, x ++ (".<locals>." : Str) ++ ("<lambda>" : Str)) ∈ TT → (∀ p ∈ TT, p.1 = Pt → p.2 = x ++ (".<locals>." : Str) ++ ("<lambda>" : Str)) → Room k (A.deeper (envOfC x (C8.fnScope st) s.heap.objs.size f (.ref c))) → sp vs H Q E →
      ∃ t, PSs (cxOf C8.CX0 P w K mg base N x (C8.fnScope st) f (.ref c) A outer s H E).nox (C8.fnBody st) t ∧ t { nx := fun _ H' => Q .non H', rt := Q } (start N vs) H) : C8.Cal P w K mg base (k + 1) x sp [] := by
  obtain ⟨f, fd, c, Pt, D, b, hcd, TB, hm, hu⟩ := D
  obtain ⟨oc, od, dV, kV, doc, pm, an, cdv, ct, osl, rfl, lk, hin⟩ := D.fn.ex
  obtain rfl : cdv = .ref c := hcd
  refine ⟨f, _, ps, [], fn_of lk hin S len fun A outer s H vs Q E hr h => ?_, D.mgf, D.kp, b, .nil⟩
  obtain ⟨t, ht, hq⟩ := hbody f c Pt A outer s H vs Q E TB hm hu hr h
  exact ⟨t, ht.nox, hq⟩
end defs
section
variable {X : Cx} {K : PySem.W.Frag} {o e : Expr} {es : List Expr} {to : TE} {t : TA} {name : Str} {apos cpos : Pos} {T id : String} {r : V → List V → Hp → VK → Prop}
theorem mt_indexSK (h : X.K = K := by rfl) : MtR X "list.index" (fun x xs H Q => ∃ (a : Addr) (l : List Str) (y : Str), x = .ref a ∧ xs = [.str y] ∧ SqL K H a (l.map V.str) ∧ y ∈ l ∧ Q (.int (l.idxOf y : Nat)) H) := h ▸ mt_indexS
theorem pe_bmK (pa : PlainAttrs T) (slot : Slot T name id) (hty : typeOf (.builtin id) = pure (.type "method_descriptor")) (hm : MtR X id r) (ho : PE X o to) (ha : PA X (e :: es) t) (hK : X.K = K := by rfl) (hbase : attributeBase o name X.env (eval o X.env) = eval o X.env := by rfl)
    (hfew : ((backTo cpos (starEach (e :: es) X.env)).all (fun x => !x.1) && (backToKw cpos (keywordEach [] X.env)).all (fun x => x.1.isSome) && decide ((e :: es).length + ([] : List Keyword).length + (if ([] : List Keyword).isEmpty then 0 else 1) < 30)) = true := by rfl)
    (hline : (apos.endLine == cpos.line) = true := by rfl) (hst : starEach (e :: es) X.env = (false, eval e X.env) :: starEach es X.env := by rfl) (hpl : (backTo cpos (starEach es X.env)).any (·.1) = false := by rfl) : PE X (.Call (.Attribute o name apos) (e :: es) [] cpos) (tBM K T r to t) :=
  hK ▸ pe_bm pa slot hty hm ho ha hbase hfew hline hst hpl
end
section
variable {P : Program} {w : World} {K : PySem.W.Frag} {mg : Str → Option Value} {base : Heap} {C : Addr} (TT : Tb)
theorem sortP_eq (N : Net) (pl : Plan) : pl.mergeSort (PySem.W.dataLe false fun r => keyP (r.1, (N.idx r.2 : Nat))) = sortP N pl := rfl
theorem cal_sorted_plan (T : Tx K mg C) (D : LamB K mg base TT "sorted_plan" s_sorted_plan ["network", "refreshes"]) (c_refresh_key : C8.Cal P w K mg base 2 "refresh_key" (sp_refresh_key (C := C) TT) []) : C8.Cal P w K mg base 6 "sorted_plan" (sp_sorted_plan (C := C) TT) [] := by
  refine cal_ofL D sc_sorted_plan (fun vs H Q E h => by obtain ⟨_, _, _, _, _, rfl, _⟩ := h; rfl) (fun fa c Pt A outer s H vs Q E TB hmT hu hr h => ?_)
  obtain ⟨v, N, p, xs, pl, rfl, hN, ok, hTab, hp, hx, hl, hn, k⟩ := h
  have nd := sc_sorted_plan.nd
  refine ⟨_, pss_one (ps_ret (pe_sortL (k := 2) (N := ["one", "network"]) (fr := ["network"]) (js := [0]) (a0 := "one") (pv 1) (by rfl) T.n_sorted TB rfl hmT hu (by rfl) (nscope_by (by decide +kernel)) (by show ndefB (C8.fnScope s_sorted_plan) _ _ = true; decide +kernel) (by rfl) hr
    (fun q cl pm cv ctv us h => by obtain ⟨u, rfl⟩ := List.length_eq_one_iff.mp h; rfl)
    (fun q cl c' f A outer s H E hr => C8.pe_c c_refresh_key hr (by decide) (by rfl) (pa_cons (pv 1) (pa_cons (pv 0) pa_nil))))), ?_⟩
  refine ⟨_, rfl, p, xs, pl, fun r => (r.1, (N.idx r.2 : Nat)), RowAt H, rfl, hp, hx, by omega, hTab, ?_, ?_⟩
  · intro x b Hc K1 hb hs e k1
    have hNc : NetAt C Hc v N := hN.ex e
    have hnb := hn b hb
    refine ⟨v, rfl, x, rfl, v, N, x, b, rfl, hNc, ok, hs.tu e.tu, hnb, fun d H' e' hd hd' => k1 d H' e' hd'⟩
  · intro d ys H2 hd e h2 hy
    rw [sortP_eq] at hy
    have hR : Rows H2 ys (sortP N pl) := Rows.tu e.tu hy
    exact k d ys H2 e hd h2 hR ⟨d, ys, rfl, .inl h2, hR⟩
theorem cal_l_order (T : Tx K mg C) (D : LamB K mg base TT "_law_order" s_l_order ["_law_parts", "_law_refreshes"]) : C8.Cal P w K mg base 6 "_law_order" (sp_l_order TT) [] := by
  refine cal_ofL D sc_l_order (fun vs H Q E h => by obtain ⟨_, _, _, _, _, rfl, _⟩ := h; rfl) (fun fa c Pt A outer s H vs Q E TB hmT hu hr h => ?_)
  obtain ⟨v, N, p, xs, pl, rfl, hN, ok, hTab, hp, hx, hl, hn, k⟩ := h
  have nd := sc_l_order.nd
  obtain ⟨pt, d1, d2, rfl, hpt, ⟨k1, e1, g1⟩, ⟨k2, e2, g2⟩⟩ := id hN
  refine ⟨_, (pss_cons (ps_set (i := 2) nd rfl (Or.inr rfl) (pe_op op_cat (pe_callTy (call_listD rfl) (by rfl) T.n_list (by decide +kernel) (pa_cons (pe_ix ix_tup (pv 0) pe_int (fun _ _ => rfl)) pa_nil)) (pe_callTy (call_listD rfl) (by rfl) T.n_list (by decide +kernel) (pa_cons (pe_ix ix_tup (pv 0) pe_int (fun _ _ => rfl)) pa_nil))))
    (pss_one (ps_ret (pe_sortL (k := 2) (N := ["_law_one", "_law_names"]) (fr := ["_law_names"]) (js := [2]) (a0 := "_law_one") (pv 1) (by rfl) T.n_sorted TB rfl hmT hu (by rfl) (nscope_by (by decide +kernel)) (by show ndefB (C8.fnScope s_l_order) _ _ = true; decide +kernel) (by rfl) hr
    (fun q cl pm cv ctv us h => by obtain ⟨u, rfl⟩ := List.length_eq_one_iff.mp h; rfl)
    (fun q cl c' f A outer s H E hr => pe_tup (pa_cons (pe_ix (ix_tupK (K := K)) (pv 0) pe_int (fun _ _ => rfl)) (pa_cons (pe_bmK (K := K) PySem.F.plainAttrs_list PySem.F.slot_list_index PySem.F.type_list_index (mt_indexSK (K := K)) (pv 1) (pa_cons (pe_ix (ix_tupK (K := K)) (pv 0) pe_int (fun _ _ => rfl)) pa_nil)) pa_nil))))))), ?_⟩
  walk_at "rd"
  rename_i q1 hq1 H1 e1' h1 q2 hq2 H2 e2' h2
  have ek : List.map (fun kv => kV kv.1) k1 ++ List.map (fun kv => kV kv.1) k2 = N.names.map V.str := by
    rw [g1.keys, g2.keys, ← List.map_append]
    rfl
  have s5 := ok.s5
  refine ⟨sz5 (by rw [List.length_map, List.length_map, g1.len, g2.len]; omega), fun q hq => ?_⟩
  rw [ek]
  generalize hh : upd _ _ _ = H3
  have e3 := exNew (T := TT) hh hq
  have h3 := updAt hh
  clear hh
  have e03 : Ex TT H H3 := by walk_at "up"
  refine ⟨_, rfl, p, xs, pl, fun r => (r.1, (N.idx r.2 : Nat)), RowAt H, rfl, by walk_at "up", hx, by omega, by walk_at "up", ?_, ?_⟩
  · intro x b Hc K1 hb hs e k1
    have hnb := hn b hb
    obtain ⟨t, rfl, ht⟩ := hs
    have htc : Hc t = some (.tup [.int b.1, .str b.2]) := by walk_at "up"
    have hqc : Hc q = some (.lst (N.names.map V.str)) := by walk_at "up"
    walk_at "rd"
    exact k1 _ _ (by walk_at "up") (by assumption)
  · intro d ys H4 hd e h4 hy
    rw [sortP_eq] at hy
    have hR : Rows H4 ys (sortP N pl) := Rows.tu (e03.trans e).tu hy
    exact k d ys H4 (by walk_at "up") (by walk_at "up") h4 hR
end
end Rf
end

set_option Elab.async false
set_option linter.all false
set_option maxRecDepth 100000
set_option maxHeartbeats 4000000
set_option pp.maxSteps 1500
section
open PySem PySem.Spec PyProof.Rows L2 Rf
local macro_rules | `(tactic| walk_at "up") => `(tactic| first | assumption | exact Ex.refl _ | exact upd_same | (apply upd_at; (focus assumption); walk_at "up") | (apply upd_at'; (focus assumption); walk_at "up") | (apply Ex.mutL; (focus (walk_at "up")); (focus (walk_at "up")); walk_at "up") | (apply Ex.mutD; (focus (walk_at "up")); (focus (walk_at "up")); walk_at "up") | (apply Ex.free'; (focus assumption); walk_at "up") | (apply Ex.atT; (focus assumption); walk_at "up") | (apply Ex.atL; (focus assumption); walk_at "up") | (apply Ex.atD; (focus assumption); walk_at "up") | (apply Ex.atI; (focus assumption); walk_at "up") | (apply Ex.atF; (focus assumption); walk_at "up") | (apply Ex.then'; (focus assumption); walk_at "up") | (apply NetAt.ex; (focus assumption); walk_at "up") | (apply PartsAt.ex; (focus assumption); walk_at "up") | (apply PlanAt.ex; (focus assumption); walk_at "up") | (apply QrsAt.ex; (focus assumption); walk_at "up") | (apply SrcD.ex; (focus assumption); walk_at "up") | (apply VwD.ex; (focus assumption); walk_at "up") | (apply SeqIs.ex; (focus assumption); walk_at "up") | (apply NetAt.ex'; (focus assumption); walk_at "up") | (apply PartsAt.ex'; (focus assumption); walk_at "up") | (apply PlanAt.ex'; (focus assumption); walk_at "up") | (apply QrsAt.ex'; (focus assumption); walk_at "up") | (apply SrcD.ex'; (focus assumption); walk_at "up") | (apply VwD.ex'; (focus assumption); walk_at "up") | (apply SeqIs.ex'; (focus assumption); walk_at "up") | (apply Ex.atT'; (focus assumption); walk_at "up") | (apply Ex.atL'; (focus assumption); walk_at "up") | (apply Ex.atD'; (focus assumption); walk_at "up") | (apply Ex.atI'; (focus assumption); walk_at "up") | (with_reducible apply FrmAt.ex'; (focus assumption); walk_at "up") | (with_reducible apply VwAt.ex'; (focus assumption); walk_at "up") | (with_reducible apply RowAt.ex'; (focus assumption); walk_at "up") | (with_reducible apply SrcAt.ex'; (focus assumption); walk_at "up") | (with_reducible apply QryAt.ex'; (focus assumption); walk_at "up") | (with_reducible apply Rows.ex'; (focus assumption); walk_at "up") | (with_reducible apply StAt.exE; (focus assumption); walk_at "up") | (with_reducible apply sqU; (focus assumption); assumption) | (with_reducible apply sqE; (focus assumption); walk_at "up") | (with_reducible apply sqM; (focus assumption); (focus (walk_at "ne")); walk_at "up") | (with_reducible apply Ex.tabs'; (focus assumption); walk_at "up") | (with_reducible apply Ex.thenM; (focus assumption); (focus (walk_at "up")); walk_at "up") | (with_reducible apply Ex.thenMM; (focus assumption); walk_at "up") | (with_reducible apply atML; (focus assumption); (focus (walk_at "ne")); walk_at "up") | (with_reducible apply atMD; (focus assumption); (focus (walk_at "ne")); walk_at "up") | (with_reducible apply atMT; (focus assumption); (focus (walk_at "ne")); walk_at "up"))
local macro_rules | `(tactic| walk_at "ne") => `(tactic| first | assumption | (apply ne_st; (focus assumption); (walk_at "up")))
local macro_rules | `(tactic| walk_at "sv") => `(tactic| first | rfl | assumption | exact Ex.refl _ | exact ClsV.ty _ | (apply TyX.base; first | exact TyOf.int _ | exact TyOf.str _ | exact TyOf.bl _ | (apply TyOf.tup; walk_at "up") | (apply TyOf.lst; walk_at "up") | (apply TyOf.dK; walk_at "up")) | exact kit_ty (by decide +kernel) | (apply Rd.of; walk_at "up") | (apply DGet_some; (focus (walk_at "up")); assumption) | (apply DGet_f; (focus (walk_at "up")); assumption) | (apply DGet_s; walk_at "up") | (apply DPut_s; (focus (walk_at "up")); omega) | (apply sz5; simp only [List.length_map, List.length_append, List.length_cons, List.length_nil]; omega) | (apply sz4; simp only [List.length_map, List.length_append, List.length_cons, List.length_nil]; omega) | (apply SqL.of; walk_at "up") | (apply SqT.of; walk_at "up") | (apply Or.inl; apply SqL.of; walk_at "up") | (apply Or.inr; apply SqT.of; walk_at "up") | (apply Exists.intro; first | (apply SqL.of; walk_at "up") | (apply SqT.of; walk_at "up")) | exact flatStrs _ | (apply dp_nil; walk_at "up") | (apply dp_strs; walk_at "up") | (apply dp_ints; walk_at "up") | (apply dp_row; walk_at "up") | (apply dp_rowL; walk_at "up") | (apply dp_rows; (focus (walk_at "up")); walk_at "up") | exact shaped_nil | exact shaped_ints | (apply shaped_strs; assumption) | (apply shaped_rows; assumption) | (apply shaped_row; assumption) | (with_reducible apply RowAt.mk; walk_at "up") | (apply tyL; walk_at "up") | (apply tyD; walk_at "up") | (with_reducible apply cmul_r; constructor <;> omega) | (with_reducible apply cmul_l; constructor <;> omega) | (with_reducible apply cdiv_i; constructor <;> omega) | walk_at "up" | (with_reducible apply ne_st; (focus assumption); walk_at "up") | omega | (dsimp only; omega) | decide | (simp only [List.length_map, List.length_append, List.length_cons, List.length_nil]; omega))
local macro_rules | `(tactic| walk_at "cn") => `(tactic| first | assumption | omega | (dsimp only; omega) | (simp only [List.length_map, List.length_append, List.length_cons, List.length_nil, List.length_reverse]; omega) | decide)
local macro_rules | `(tactic| walk_at "rd") => `(tactic| first
  | (with_reducible show LcGo _ _ _ _ _ _ _ _)
  | (with_reducible show DcGo _ _ _ _ _ _ _ _ _)
  | (with_reducible show ForGo _ _ _ _ _ _)
  | (refine allocI (fun p hp => ?_); generalize hh : upd _ _ _ = H2; have e := exNew (T := ‹Tb›) hh hp; have h := updAt hh; clear hh; walk_at "rd")
  | (apply And.intro; (focus (walk_at "sv")); walk_at "rd")
  | (apply Exists.intro; walk_at "rd")
  | (refine iteY ?_ ?_; (focus (walk_at "cn")); walk_at "rd")
  | (refine iteN ?_ ?_; (focus (walk_at "cn")); walk_at "rd")
  | (refine iteY' ?_ ?_; (focus (walk_at "cn")); walk_at "rd")
  | (refine iteN' ?_ ?_; (focus (walk_at "cn")); walk_at "rd")
  | (refine iteBt ?_ ?_; (focus (first | assumption | decide +kernel)); walk_at "rd")
  | (refine iteBf ?_ ?_; (focus (first | assumption | decide +kernel)); walk_at "rd")
  | (intro _; walk_at "rd") | skip)
namespace Rf
/-! ### the plan is not sufficient: the exception and who passes it on -/
/-- what is known of the exception's class -/
structure Nx (K : PySem.W.Frag) (mg : Str → Option Value) (NS : Addr) : Prop where
  gP : mg "NotSufficient" = some (.ref NS)
  xP : PySem.W.excIn K NS He.veBase "ValueError.__new__" = true
  kP : PySem.W.keepIn K (.ref NS) = true
  bP : PySem.W.subIn K (.ref NS) (.type "BaseException") = some true
  tP : PySem.W.typeIn K (.ref NS) = some (.type "type")
  eP : PySem.W.exmOne K (.ref NS) (.ref NS) = some true
/-- a def that may raise, by its name -/
structure CalX (P : Program) (w : World) (K : PySem.W.Frag) (mg : Str → Option Value) (base : Heap) (k : Nat) (x : Str) (sp : Sp) : Prop where
  ex : ∃ (f : Addr) (fd : FuncData) (ps : List Str), FnOk P w K mg base (L2.CX P w) k f fd ps sp ∧ mg x = some (.ref f) ∧ PySem.W.keepIn K (.ref f) = true ∧ Binds K fd ps []
section
variable {P : Program} {w : World} {K : PySem.W.Frag} {mg : Str → Option Value} {base : Heap}
theorem calx_of {x : Str} {st : Stmt} {N ps : List Str} {k : Nat} {sp : Sp} (D : DefB K mg x st ps) (S : FnScope N ps (C8.fnScope st)) (len : ∀ vs H Q E, sp vs H Q E → vs.length = ps.length)
    (hbody : ∀ (f : Addr) (cdv : Value) (A : Around) (outer : List Env) (s : Shared) (H : Hp) (vs : List V) (Q : VK) (E : XK), Room k (A.deeper (envOfC x (C8.fnScope st) s.heap.objs.size f cdv)) → sp vs H Q E →
      ∃ t, PSs (cxOf (L2.CX P w) P w K mg base N x (C8.fnScope st) f cdv A outer s H E) (C8.fnBody st) t ∧ t { nx := fun _ H' => Q .non H', rt := Q } (start N vs) H) : CalX P w K mg base (k + 1) x sp := by
  obtain ⟨f, fd, D, b⟩ := D
  obtain ⟨oc, od, dV, kV, doc, pm, an, cdv, ct, osl, rfl, lk, hin⟩ := D.fn.ex
  exact ⟨f, _, ps, fn_of lk hin S len fun A outer s H vs Q E hr h => hbody f cdv A outer s H vs Q E hr h, D.mgf, D.kp, b⟩
end
theorem pe_x {X : Cx} {k j : Nat} {x : Str} {sp : Sp} {E : XK} {W : WX} {e : Expr} {es : List Expr} {t : TA} {p pos : Pos} (c : CalX X.prog X.w X.K X.mg X.base k x sp) (hr : Room j X.A) (hk : k ≤ j) (tk : Takes X W) (hW : ∀ cls d σ H, E cls d H → W cls d σ H) (hg : Gl X x) (ha : PA X (e :: es) t)
    (hdb : (x == ("__debug__" : Str)) = false := by decide) (he : starEach (e :: es) X.env = (false, eval e X.env) :: starEach es X.env := by rfl) (hpl : (backTo pos (starEach es X.env)).any (·.1) = false := by rfl) :
    PE X (.Call (.Name x p) (e :: es) [] pos) (tCall sp [] E t) := by
  obtain ⟨f, fd, ps, F, hm, kp, b⟩ := c.ex
  exact pe_call F (hr.mono hk) hg hm kp b .nil (passes_call tk hW) ha hdb he hpl
section
variable {P : Program} {w : World} {K : PySem.W.Frag} {mg : Str → Option Value} {base : Heap} {C NS : Addr} (TT : Tb)
/-- the plan is not enough: the exception comes -/
def sp_no : Sp := fun vs H _ E => ∃ v N h pv pl qv qs, vs = [v, .int h, pv, qv] ∧ NetAt C H v N ∧ NetOk N ∧ PlanAt H pv pl ∧ QrsAt H qv qs ∧ AskOk N h pl qs ∧ N.enough pl qs = false ∧ ∀ H', Ex TT H H' → E (.ref NS) none H'
theorem calx_check_sufficient (T : Tx K mg C) (Z : Nx K mg NS) (D : DefB K mg "check_sufficient" s_check_sufficient ["network", "horizon", "plan", "queries"]) (c_is_sufficient : C8.Cal P w K mg base 9 "is_sufficient" (sp_is_sufficient (C := C) TT) []) : CalX P w K mg base 10 "check_sufficient" (sp_no (C := C) (NS := NS) TT) := by
  refine calx_of D sc_check_sufficient (fun vs H Q E h => by obtain ⟨_, _, _, _, _, _, _, rfl, _⟩ := h; rfl) (fun fa cdv A outer s H vs Q E hr h => ?_)
  obtain ⟨v, N, h, vp, pl, vq, qs, rfl, hN, ok, hP, hQ, ao, en, k⟩ := h
  have nd := sc_check_sufficient.nd
  have en' : (!N.enough pl qs) = true := by rw [en] <;> rfl
  refine ⟨_, pss_one (ps_if (pt_not (pt_val (C8.pe_c c_is_sufficient hr (by first | decide | omega) (by rfl) (pa_cons (pv 0) (pa_cons (pv 1) (pa_cons (pv 2) (pa_cons (pv 3) pa_nil)))))))
    (pss_one (ps_raise rfl (takes_of rfl rfl rfl rfl) (pmk_own PySem.F.excBase_ValueError Z.xP Z.gP Z.kP (raises_own Z.bP Z.tP) rfl))) pss_nil), ?_⟩
  walk_at "rd"
  exact k _ (by walk_at "up")
theorem calx_slacks (D : DefB K mg "slacks" s_slacks ["network", "horizon", "plan", "queries"]) (c : CalX P w K mg base 10 "check_sufficient" (sp_no (C := C) (NS := NS) TT)) : CalX P w K mg base 11 "slacks" (sp_no (C := C) (NS := NS) TT) := by
  refine calx_of D sc_slacks (fun vs H Q E h => by obtain ⟨_, _, _, _, _, _, _, rfl, _⟩ := h; rfl) (fun fa cdv A outer s H vs Q E hr h => ?_)
  obtain ⟨v, N, h, vp, pl, vq, qs, rfl, hN, ok, hP, hQ, ao, en, k⟩ := h
  refine ⟨_, pss_cons (ps_expr (pe_x c hr (by first | decide | omega) (takes_of (E := E) rfl rfl rfl rfl) (fun _ _ _ _ h => h) (by rfl) (pa_cons (pv 0) (pa_cons (pv 1) (pa_cons (pv 2) (pa_cons (pv 3) pa_nil)))))) pss_never, ?_⟩
  exact ⟨_, rfl, _, rfl, _, rfl, _, rfl, v, N, h, vp, pl, vq, qs, rfl, hN, ok, hP, hQ, ao, en, k⟩
theorem calx_redundant (D : DefB K mg "redundant" s_redundant ["network", "horizon", "plan", "queries"]) (c : CalX P w K mg base 10 "check_sufficient" (sp_no (C := C) (NS := NS) TT)) : CalX P w K mg base 11 "redundant" (sp_no (C := C) (NS := NS) TT) := by
  refine calx_of D sc_redundant (fun vs H Q E h => by obtain ⟨_, _, _, _, _, _, _, rfl, _⟩ := h; rfl) (fun fa cdv A outer s H vs Q E hr h => ?_)
  obtain ⟨v, N, h, vp, pl, vq, qs, rfl, hN, ok, hP, hQ, ao, en, k⟩ := h
  refine ⟨_, pss_cons (ps_expr (pe_x c hr (by first | decide | omega) (takes_of (E := E) rfl rfl rfl rfl) (fun _ _ _ _ h => h) (by rfl) (pa_cons (pv 0) (pa_cons (pv 1) (pa_cons (pv 2) (pa_cons (pv 3) pa_nil)))))) pss_never, ?_⟩
  exact ⟨_, rfl, _, rfl, _, rfl, _, rfl, v, N, h, vp, pl, vq, qs, rfl, hN, ok, hP, hQ, ao, en, k⟩
theorem calx_trimmed (D : DefB K mg "trimmed" s_trimmed ["network", "horizon", "plan", "queries"]) (c : CalX P w K mg base 10 "check_sufficient" (sp_no (C := C) (NS := NS) TT)) : CalX P w K mg base 11 "trimmed" (sp_no (C := C) (NS := NS) TT) := by
  refine calx_of D sc_trimmed (fun vs H Q E h => by obtain ⟨_, _, _, _, _, _, _, rfl, _⟩ := h; rfl) (fun fa cdv A outer s H vs Q E hr h => ?_)
  obtain ⟨v, N, h, vp, pl, vq, qs, rfl, hN, ok, hP, hQ, ao, en, k⟩ := h
  refine ⟨_, pss_cons (ps_expr (pe_x c hr (by first | decide | omega) (takes_of (E := E) rfl rfl rfl rfl) (fun _ _ _ _ h => h) (by rfl) (pa_cons (pv 0) (pa_cons (pv 1) (pa_cons (pv 2) (pa_cons (pv 3) pa_nil)))))) pss_never, ?_⟩
  exact ⟨_, rfl, _, rfl, _, rfl, _, rfl, v, N, h, vp, pl, vq, qs, rfl, hN, ok, hP, hQ, ao, en, k⟩
theorem calx_delayed (D : DefB K mg "delayed" s_delayed ["network", "horizon", "plan", "queries"]) (c : CalX P w K mg base 10 "check_sufficient" (sp_no (C := C) (NS := NS) TT)) : CalX P w K mg base 11 "delayed" (sp_no (C := C) (NS := NS) TT) := by
  refine calx_of D sc_delayed (fun vs H Q E h => by obtain ⟨_, _, _, _, _, _, _, rfl, _⟩ := h; rfl) (fun fa cdv A outer s H vs Q E hr h => ?_)
  obtain ⟨v, N, h, vp, pl, vq, qs, rfl, hN, ok, hP, hQ, ao, en, k⟩ := h
  refine ⟨_, pss_cons (ps_expr (pe_x c hr (by first | decide | omega) (takes_of (E := E) rfl rfl rfl rfl) (fun _ _ _ _ h => h) (by rfl) (pa_cons (pv 0) (pa_cons (pv 1) (pa_cons (pv 2) (pa_cons (pv 3) pa_nil)))))) pss_never, ?_⟩
  exact ⟨_, rfl, _, rfl, _, rfl, _, rfl, v, N, h, vp, pl, vq, qs, rfl, hN, ok, hP, hQ, ao, en, k⟩
end
end Rf
end

set_option Elab.async false
set_option linter.all false
set_option maxRecDepth 100000
set_option maxHeartbeats 4000000
set_option pp.maxSteps 1500
section
open PySem PySem.Spec PyProof.Rows L2 Rf
local macro_rules | `(tactic| walk_at "up") => `(tactic| first | assumption | exact Ex.refl _ | exact upd_same | (apply upd_at; (focus assumption); walk_at "up") | (apply upd_at'; (focus assumption); walk_at "up") | (apply Ex.mutL; (focus (walk_at "up")); (focus (walk_at "up")); walk_at "up") | (apply Ex.mutD; (focus (walk_at "up")); (focus (walk_at "up")); walk_at "up") | (apply Ex.free'; (focus assumption); walk_at "up") | (apply Ex.atT; (focus assumption); walk_at "up") | (apply Ex.atL; (focus assumption); walk_at "up") | (apply Ex.atD; (focus assumption); walk_at "up") | (apply Ex.atI; (focus assumption); walk_at "up") | (apply Ex.atF; (focus assumption); walk_at "up") | (apply Ex.then'; (focus assumption); walk_at "up") | (apply NetAt.ex; (focus assumption); walk_at "up") | (apply PartsAt.ex; (focus assumption); walk_at "up") | (apply PlanAt.ex; (focus assumption); walk_at "up") | (apply QrsAt.ex; (focus assumption); walk_at "up") | (apply SrcD.ex; (focus assumption); walk_at "up") | (apply VwD.ex; (focus assumption); walk_at "up") | (apply SeqIs.ex; (focus assumption); walk_at "up") | (apply NetAt.ex'; (focus assumption); walk_at "up") | (apply PartsAt.ex'; (focus assumption); walk_at "up") | (apply PlanAt.ex'; (focus assumption); walk_at "up") | (apply QrsAt.ex'; (focus assumption); walk_at "up") | (apply SrcD.ex'; (focus assumption); walk_at "up") | (apply VwD.ex'; (focus assumption); walk_at "up") | (apply SeqIs.ex'; (focus assumption); walk_at "up") | (apply Ex.atT'; (focus assumption); walk_at "up") | (apply Ex.atL'; (focus assumption); walk_at "up") | (apply Ex.atD'; (focus assumption); walk_at "up") | (apply Ex.atI'; (focus assumption); walk_at "up") | (with_reducible apply FrmAt.ex'; (focus assumption); walk_at "up") | (with_reducible apply VwAt.ex'; (focus assumption); walk_at "up") | (with_reducible apply RowAt.ex'; (focus assumption); walk_at "up") | (with_reducible apply SrcAt.ex'; (focus assumption); walk_at "up") | (with_reducible apply QryAt.ex'; (focus assumption); walk_at "up") | (with_reducible apply Rows.ex'; (focus assumption); walk_at "up") | (with_reducible apply StAt.exE; (focus assumption); walk_at "up") | (with_reducible apply sqU; (focus assumption); assumption) | (with_reducible apply sqE; (focus assumption); walk_at "up") | (with_reducible apply sqM; (focus assumption); (focus (walk_at "ne")); walk_at "up") | (with_reducible apply Ex.tabs'; (focus assumption); walk_at "up") | (with_reducible apply Ex.thenM; (focus assumption); (focus (walk_at "up")); walk_at "up") | (with_reducible apply Ex.thenMM; (focus assumption); walk_at "up") | (with_reducible apply atML; (focus assumption); (focus (walk_at "ne")); walk_at "up") | (with_reducible apply atMD; (focus assumption); (focus (walk_at "ne")); walk_at "up") | (with_reducible apply atMT; (focus assumption); (focus (walk_at "ne")); walk_at "up"))
local macro_rules | `(tactic| walk_at "ne") => `(tactic| first | assumption | (apply ne_st; (focus assumption); (walk_at "up")))
local macro_rules | `(tactic| walk_at "sv") => `(tactic| first | rfl | assumption | exact Ex.refl _ | exact ClsV.ty _ | (apply TyX.base; first | exact TyOf.int _ | exact TyOf.str _ | exact TyOf.bl _ | (apply TyOf.tup; walk_at "up") | (apply TyOf.lst; walk_at "up") | (apply TyOf.dK; walk_at "up")) | exact kit_ty (by decide +kernel) | (apply Rd.of; walk_at "up") | (apply DGet_some; (focus (walk_at "up")); assumption) | (apply DGet_f; (focus (walk_at "up")); assumption) | (apply DGet_s; walk_at "up") | (apply DPut_s; (focus (walk_at "up")); omega) | (apply sz5; simp only [List.length_map, List.length_append, List.length_cons, List.length_nil]; omega) | (apply sz4; simp only [List.length_map, List.length_append, List.length_cons, List.length_nil]; omega) | (apply SqL.of; walk_at "up") | (apply SqT.of; walk_at "up") | (apply Or.inl; apply SqL.of; walk_at "up") | (apply Or.inr; apply SqT.of; walk_at "up") | (apply Exists.intro; first | (apply SqL.of; walk_at "up") | (apply SqT.of; walk_at "up")) | exact flatStrs _ | (apply dp_nil; walk_at "up") | (apply dp_strs; walk_at "up") | (apply dp_ints; walk_at "up") | (apply dp_row; walk_at "up") | (apply dp_rowL; walk_at "up") | (apply dp_rows; (focus (walk_at "up")); walk_at "up") | exact shaped_nil | exact shaped_ints | (apply shaped_strs; assumption) | (apply shaped_rows; assumption) | (apply shaped_row; assumption) | (with_reducible apply RowAt.mk; walk_at "up") | (apply tyL; walk_at "up") | (apply tyD; walk_at "up") | (with_reducible apply cmul_r; constructor <;> omega) | (with_reducible apply cmul_l; constructor <;> omega) | (with_reducible apply cdiv_i; constructor <;> omega) | walk_at "up" | (with_reducible apply ne_st; (focus assumption); walk_at "up") | omega | (dsimp only; omega) | decide | (simp only [List.length_map, List.length_append, List.length_cons, List.length_nil]; omega))
local macro_rules | `(tactic| walk_at "cn") => `(tactic| first | assumption | omega | (dsimp only; omega) | (simp only [List.length_map, List.length_append, List.length_cons, List.length_nil, List.length_reverse]; omega) | decide)
local macro_rules | `(tactic| walk_at "rd") => `(tactic| first
  | (with_reducible show LcGo _ _ _ _ _ _ _ _)
  | (with_reducible show DcGo _ _ _ _ _ _ _ _ _)
  | (with_reducible show ForGo _ _ _ _ _ _)
  | (refine allocI (fun p hp => ?_); generalize hh : upd _ _ _ = H2; have e := exNew (T := ‹Tb›) hh hp; have h := updAt hh; clear hh; walk_at "rd")
  | (apply And.intro; (focus (walk_at "sv")); walk_at "rd")
  | (apply Exists.intro; walk_at "rd")
  | (refine iteY ?_ ?_; (focus (walk_at "cn")); walk_at "rd")
  | (refine iteN ?_ ?_; (focus (walk_at "cn")); walk_at "rd")
  | (refine iteY' ?_ ?_; (focus (walk_at "cn")); walk_at "rd")
  | (refine iteN' ?_ ?_; (focus (walk_at "cn")); walk_at "rd")
  | (refine iteBt ?_ ?_; (focus (first | assumption | decide +kernel)); walk_at "rd")
  | (refine iteBf ?_ ?_; (focus (first | assumption | decide +kernel)); walk_at "rd")
  | (intro _; walk_at "rd") | skip)
namespace Rf
open NdefX LamX
/-! ### a list comprehension whose element may lean on what the def's frame holds at its start -/
theorem pe_lcI {X : Cx} {elt tg iter : Expr} {scope : Scope} {own : List (Str × Nat)} {pos : Pos} {wi : TI} {g : TG} {te : L2.St → TE} (hc : X.calm = true) (hN : X.N.Nodup) (hi : PI X tg iter wi) (ok : BlkOk X.N X.env.scope scope own)
    (hg : ∀ (s : Shared) (H : Hp) (C : Addr) (cl : List (Str × Addr)) (fp : List Addr), PG (X.blk s H scope (compEnvC scope cl C X.env) fp) tg g)
    (he : ∀ (pins : List (Addr × Obj)) (σ : L2.St) (s : Shared) (H : Hp) (C : Addr) (cl : List (Str × Addr)) (fp : List Addr), Inv X pins σ H s → (∀ b ∈ fp, FpOk X pins H b) → PE (X.blk s H scope (compEnvC scope cl C X.env) fp) elt (te σ))
    (hs : ∀ x, foldedSetIterable iter X.env x = pure x := by intro _; rfl) :
    PE X (.ListComp elt [⟨tg, iter, [], 0⟩] scope pos) (fun σ H Q => tLc wi g tYes (te σ) (own.map (·.2)) σ H Q) := by
  refine ⟨fun pins s σ H Q I h => ?_⟩
  have hcap : ∀ y ∈ scope.names, y.2 = .free → ∃ c, X.env.cells.lookup y.1 = some c := fun y hy e => (ok.free y hy e).elim (fun k => I.ok.has _ (.inl k)) fun k => I.ok.has _ (.inr k)
  rw [eval_ListComp]
  refine wpAny_comprehension_free (use := none) rfl hs (closure_ok hcap) ok.kind (fun y hy e => by rw [ok.uniq y hy, e]) (thn (hi.run pins s σ H _ I h) fun u sa ha => thn ha fun itv sb hb => ?_)
  obtain ⟨it, fp, tn, J, Ha, rfl, Ib, Tn, stb, fb, q⟩ := hb
  refine wpAny_newObj_type (newEnv_comp ?_) (by show 0 ≤ sizeLine; decide)
  generalize eD : sb.heap.objs.size = D
  have nD : Ha D = none := Ib.hok.fresh (Nat.le_of_eq eD)
  obtain ⟨Wt, ⟨m0, w0⟩, turn⟩ := q D nD
  generalize esc : ({ sb with heap := sb.heap.push { cls := .type "list", data := .seq ([] : List Value).toArray } } : Shared) = sc
  have hpc : sc.heap = sb.heap.push { cls := .type "list", data := .seq ([] : List Value).toArray } := by rw [← esc]
  have kc : ∀ b o, sb.heap.get? b = some o → sc.heap.get? b = some o := fun b o e => by
    rw [hpc]
    exact Heap.get?_push_of_some _ e
  have Ic : Inv X pins σ (upd Ha D (.lst [])) sc := by
    rw [← esc]
    exact Ib.laid (t' := sb.toks) (fun b o e => Heap.get?_push_of_some _ e) (Nat.le_of_eq eD) ⟨Nat.zero_le _, [], 0, .nil, by rw [← eD]; exact Heap.get?_push_size _ rfl⟩
  have low : ∀ b ∈ fp, b < D := fun b hb => by
    obtain ⟨o, e, _⟩ := Tn.obj _ _ stb b hb
    rw [← eD]
    exact Heap.lt_size e
  have szc : sc.heap.objs.size = D + 1 := by rw [hpc, Heap.size_push, eD]
  have fc : ∀ b ∈ fp, FpOk X pins (upd Ha D (.lst [])) b ∧ b < sc.heap.objs.size := fun b hb => by
    have hlt := low b hb
    refine ⟨⟨?_, (fb b hb).2⟩, by rw [szc]; exact Nat.lt_succ_of_lt hlt⟩
    rw [upd_ne (Nat.ne_of_lt hlt)]
    exact (fb b hb).1
  have stc : tn 0 sc.heap := Tn.keep _ _ _ stb fun b _ o e => kc b o e
  have Id := block_start Ic ok hN fc
  have pg := hg sc (upd Ha D (.lst [])) sc.heap.objs.size (cellsFrom (sc.heap.objs.size + 1) scope.names (cloFrom X.env.cells scope.names [])) fp
  have pe := he pins σ sc (upd Ha D (.lst [])) sc.heap.objs.size (cellsFrom (sc.heap.objs.size + 1) scope.names (cloFrom X.env.cells scope.names [])) fp Ic fun b hb => (fc b hb).1
  show codeAny _ _ (.compStart (.ListComp elt [⟨tg, iter, [], 0⟩] scope pos) 0 (.ref it) (.ref D) (compEnvC scope (cellsFrom (sc.heap.objs.size + 1) scope.names (cloFrom X.env.cells scope.names [])) sc.heap.objs.size X.env))
    (compPost (model X.prog X.w) X.A X.xe none (EP X pins σ Q) (.ref D) sc.heap.objs.size) { sc with heap := pushCells (sc.heap.push { cls := .type "dict", data := .dict #[] }) scope.names }
  generalize ece : compEnvC scope (cellsFrom (sc.heap.objs.size + 1) scope.names (cloFrom X.env.cells scope.names [])) sc.heap.objs.size X.env = ce at Id pg pe ⊢
  have locE : ce.locals = sc.heap.objs.size := by rw [← ece]; rfl
  generalize eHc : upd Ha D (.lst []) = Hc at Ic Id pg pe w0 fc
  generalize esd : ({ sc with heap := pushCells (sc.heap.push { cls := .type "dict", data := .dict #[] }) scope.names } : Shared) = sd at Id ⊢
  have std : tn 0 sd.heap := Tn.keep _ _ _ stc fun b _ o e => by rw [← esd]; exact pushCells_keeps _ _ _ _ (Heap.get?_push_of_some _ e)
  have fine : ∀ {σ' : L2.St} {H' : Hp} {s' : Shared}, Inv (X.blk sc Hc scope ce fp) [] σ' H' s' → (∀ b ∈ fp, H' b = none) → ∀ b ∈ fp, FpOk (X.blk sc Hc scope ce fp) [] H' b := fun {σ' H' s'} I' hn b hb =>
    ⟨hn b hb, (I'.ok.exf b hb).1, I'.ok.exfs b hb, .inl hb, fun x c e => (I'.ok.exf b hb).2 x c e, fun p hp => by cases hp⟩
  have loop : codeAny (model X.prog X.w) X.A (.compLoop (.ListComp elt [⟨tg, iter, [], 0⟩] scope pos) 0 (.ref it) (.ref D) ce) (compPost (model X.prog X.w) X.A X.xe none (EP X pins σ Q) (.ref D) sc.heap.objs.size) sd := by
    refine compLoop_any (fun n s' => ∃ i H', Inv (X.blk sc Hc scope ce fp) [] (wipe σ (own.map (·.2))) H' s' ∧ tn i s'.heap ∧ (∀ b ∈ fp, H' b = none) ∧ Wt i n H') ?_ m0 ⟨0, Hc, Id, std, fun b hb => (fc b hb).1.1, w0⟩
    rintro n s5 ⟨i, H5, I5, st5, n5, w5⟩
    rcases turn i n H5 w5 with ⟨stop, fin⟩ | ⟨go, Nx, hNx, step⟩
    · refine thnF (Tn.done (X.blk sc Hc scope ce fp) rfl rfl rfl hc i [] s5 _ H5 (fun _ _ => False) I5 (fine I5 n5) st5 stop) fun r s6 hr => ?_
      obtain ⟨rfl, I6⟩ := hr
      have I7 : Inv X pins σ H5 s6 := Ic.call' (ch := fp) I6.os I6.base I6.hok I6.bare fun b hb =>
        let z := (fc b hb).1
        ⟨z.2.2.2.1, z.2.1, z.2.2.2.2.1, z.2.2.2.2.2⟩
      obtain ⟨m, hns, _⟩ := I6.loc
      have hns : s6.heap.Ns ce.locals m := hns
      have nC : H5 ce.locals = none := I6.free
      rw [locE] at hns nC
      refine ⟨m, hns, fun h'' sbut => ?_⟩
      obtain ⟨f0, f1, f2, f3, f4, f5⟩ := Ic.fpOk (Nat.le_refl _) nC
      exact ⟨.ref D, H5, I7.turned (t' := s6.toks) (fun b o hb e => (sbut.2 b hb).trans e) f0 f1 f3 f4 f5, rfl, fin⟩
    · refine thnF (Tn.item (X.blk sc Hc scope ce fp) rfl rfl rfl hc i [] s5 _ H5 (fun _ _ => False) I5 (fine I5 n5) st5 go) fun r s6 hr => ?_
      obtain ⟨u, rfl, h6⟩ := hr
      refine thnF h6 fun _ s7 h7 => ?_
      obtain ⟨x, H7, I7, r7, y7, st7, n7⟩ := h7
      have I7p := I7.pinned (fine I7 n7) (Tn.obj _ _ st7)
      refine thnF (pg.run _ s7 _ H7 x u _ I7p r7 (step x H7 y7)) fun _ s8 h8 => ?_
      obtain ⟨σ8, H8, I8, hw8, q8⟩ := h8
      refine thnF ((pts_nil (X := X.blk sc Hc scope ce fp)).run _ s8 σ8 H8 _ I8 q8) fun b s9 h9 => ?_
      obtain ⟨H9, I9, q9⟩ := h9
      have close : ∀ {s' : Shared} {H' : Hp}, Inv (X.blk sc Hc scope ce fp) ([] ++ pinsAt fp s7.heap) σ8 H' s' → Nx H' → ∃ m, m < n ∧ ∃ i H', Inv (X.blk sc Hc scope ce fp) [] (wipe σ (own.map (·.2))) H' s' ∧ tn i s'.heap ∧ (∀ b ∈ fp, H' b = none) ∧ Wt i m H' := fun {s' H'} I' nx => by
        obtain ⟨m', hm, w'⟩ := hNx H' nx
        have held : ∀ b ∈ fp, ∀ o, s7.heap.get? b = some o → s'.heap.get? b = some o ∧ H' b = none := fun b hb o e => by
          have z := I'.pin (b, o) (List.mem_append_right _ (List.mem_append_right _ (mem_pinsAt hb e)))
          exact ⟨z.1, z.2.1⟩
        refine ⟨m', hm, i + 1, H', (I'.unpinned (pins := [])).weak (by rw [← hw8, wipe_length]) (fun j v e => ?_), Tn.keep _ _ _ st7 fun b hb o e => (held b hb o e).1, fun b hb => ?_, w'⟩
        · rw [← hw8] at e
          exact (wipe_some e).1
        · obtain ⟨o, e, _⟩ := Tn.obj _ _ st7 b hb
          exact (held b hb o e).2
      cases b with
      | false =>
        simp only [Bool.false_eq_true, if_false] at q9 ⊢
        exact close I9 q9
      | true =>
        simp only [if_true] at q9 ⊢
        refine thnF (pe.run _ s9 σ8 H9 _ I9 q9) fun z s10 h10 => ?_
        obtain ⟨yv, H10, I10, r10, acc, hD10, hz10, nx⟩ := h10
        exact app_ok (X := X.blk sc Hc scope ce fp) I10 hD10 hz10 r10 fun s11 I11 => close I11 nx
  exact codeAny_compStart_list loop (Tn.self X.A 0 _ _ _ std loop)
end Rf
end

set_option Elab.async false
set_option linter.all false
set_option maxRecDepth 100000
set_option maxHeartbeats 4000000
set_option pp.maxSteps 1500
section
open PySem PySem.Spec PyProof.Rows L2 Rf
local macro_rules | `(tactic| walk_at "up") => `(tactic| first | assumption | exact Ex.refl _ | exact upd_same | (apply upd_at; (focus assumption); walk_at "up") | (apply upd_at'; (focus assumption); walk_at "up") | (apply Ex.mutL; (focus (walk_at "up")); (focus (walk_at "up")); walk_at "up") | (apply Ex.mutD; (focus (walk_at "up")); (focus (walk_at "up")); walk_at "up") | (apply Ex.free'; (focus assumption); walk_at "up") | (apply Ex.atT; (focus assumption); walk_at "up") | (apply Ex.atL; (focus assumption); walk_at "up") | (apply Ex.atD; (focus assumption); walk_at "up") | (apply Ex.atI; (focus assumption); walk_at "up") | (apply Ex.atF; (focus assumption); walk_at "up") | (apply Ex.then'; (focus assumption); walk_at "up") | (apply NetAt.ex; (focus assumption); walk_at "up") | (apply PartsAt.ex; (focus assumption); walk_at "up") | (apply PlanAt.ex; (focus assumption); walk_at "up") | (apply QrsAt.ex; (focus assumption); walk_at "up") | (apply SrcD.ex; (focus assumption); walk_at "up") | (apply VwD.ex; (focus assumption); walk_at "up") | (apply SeqIs.ex; (focus assumption); walk_at "up") | (apply NetAt.ex'; (focus assumption); walk_at "up") | (apply PartsAt.ex'; (focus assumption); walk_at "up") | (apply PlanAt.ex'; (focus assumption); walk_at "up") | (apply QrsAt.ex'; (focus assumption); walk_at "up") | (apply SrcD.ex'; (focus assumption); walk_at "up") | (apply VwD.ex'; (focus assumption); walk_at "up") | (apply SeqIs.ex'; (focus assumption); walk_at "up") | (apply Ex.atT'; (focus assumption); walk_at "up") | (apply Ex.atL'; (focus assumption); walk_at "up") | (apply Ex.atD'; (focus assumption); walk_at "up") | (apply Ex.atI'; (focus assumption); walk_at "up") | (with_reducible apply FrmAt.ex'; (focus assumption); walk_at "up") | (with_reducible apply VwAt.ex'; (focus assumption); walk_at "up") | (with_reducible apply RowAt.ex'; (focus assumption); walk_at "up") | (with_reducible apply SrcAt.ex'; (focus assumption); walk_at "up") | (with_reducible apply QryAt.ex'; (focus assumption); walk_at "up") | (with_reducible apply Rows.ex'; (focus assumption); walk_at "up") | (with_reducible apply StAt.exE; (focus assumption); walk_at "up") | (with_reducible apply sqU; (focus assumption); assumption) | (with_reducible apply sqE; (focus assumption); walk_at "up") | (with_reducible apply sqM; (focus assumption); (focus (walk_at "ne")); walk_at "up") | (with_reducible apply Ex.tabs'; (focus assumption); walk_at "up") | (with_reducible apply Ex.thenM; (focus assumption); (focus (walk_at "up")); walk_at "up") | (with_reducible apply Ex.thenMM; (focus assumption); walk_at "up") | (with_reducible apply atML; (focus assumption); (focus (walk_at "ne")); walk_at "up") | (with_reducible apply atMD; (focus assumption); (focus (walk_at "ne")); walk_at "up") | (with_reducible apply atMT; (focus assumption); (focus (walk_at "ne")); walk_at "up"))
local macro_rules | `(tactic| walk_at "ne") => `(tactic| first | assumption | (apply ne_st; (focus assumption); (walk_at "up")))
local macro_rules | `(tactic| walk_at "sv") => `(tactic| first | rfl | assumption | exact Ex.refl _ | exact ClsV.ty _ | (apply TyX.base; first | exact TyOf.int _ | exact TyOf.str _ | exact TyOf.bl _ | (apply TyOf.tup; walk_at "up") | (apply TyOf.lst; walk_at "up") | (apply TyOf.dK; walk_at "up")) | exact kit_ty (by decide +kernel) | (apply Rd.of; walk_at "up") | (apply DGet_some; (focus (walk_at "up")); assumption) | (apply DGet_f; (focus (walk_at "up")); assumption) | (apply DGet_s; walk_at "up") | (apply DPut_s; (focus (walk_at "up")); omega) | (apply sz5; simp only [List.length_map, List.length_append, List.length_cons, List.length_nil]; omega) | (apply sz4; simp only [List.length_map, List.length_append, List.length_cons, List.length_nil]; omega) | (apply SqL.of; walk_at "up") | (apply SqT.of; walk_at "up") | (apply Or.inl; apply SqL.of; walk_at "up") | (apply Or.inr; apply SqT.of; walk_at "up") | (apply Exists.intro; first | (apply SqL.of; walk_at "up") | (apply SqT.of; walk_at "up")) | exact flatStrs _ | (apply dp_nil; walk_at "up") | (apply dp_strs; walk_at "up") | (apply dp_ints; walk_at "up") | (apply dp_row; walk_at "up") | (apply dp_rowL; walk_at "up") | (apply dp_rows; (focus (walk_at "up")); walk_at "up") | exact shaped_nil | exact shaped_ints | (apply shaped_strs; assumption) | (apply shaped_rows; assumption) | (apply shaped_row; assumption) | (with_reducible apply RowAt.mk; walk_at "up") | (apply tyL; walk_at "up") | (apply tyD; walk_at "up") | (with_reducible apply cmul_r; constructor <;> omega) | (with_reducible apply cmul_l; constructor <;> omega) | (with_reducible apply cdiv_i; constructor <;> omega) | walk_at "up" | (with_reducible apply ne_st; (focus assumption); walk_at "up") | omega | (dsimp only; omega) | decide | (simp only [List.length_map, List.length_append, List.length_cons, List.length_nil]; omega))
local macro_rules | `(tactic| walk_at "cn") => `(tactic| first | assumption | omega | (dsimp only; omega) | (simp only [List.length_map, List.length_append, List.length_cons, List.length_nil, List.length_reverse]; omega) | decide)
local macro_rules | `(tactic| walk_at "rd") => `(tactic| first
  | (with_reducible show LcGo _ _ _ _ _ _ _ _)
  | (with_reducible show DcGo _ _ _ _ _ _ _ _ _)
  | (with_reducible show ForGo _ _ _ _ _ _)
  | (refine allocI (fun p hp => ?_); generalize hh : upd _ _ _ = H2; have e := exNew (T := ‹Tb›) hh hp; have h := updAt hh; clear hh; walk_at "rd")
  | (apply And.intro; (focus (walk_at "sv")); walk_at "rd")
  | (apply Exists.intro; walk_at "rd")
  | (refine iteY ?_ ?_; (focus (walk_at "cn")); walk_at "rd")
  | (refine iteN ?_ ?_; (focus (walk_at "cn")); walk_at "rd")
  | (refine iteY' ?_ ?_; (focus (walk_at "cn")); walk_at "rd")
  | (refine iteN' ?_ ?_; (focus (walk_at "cn")); walk_at "rd")
  | (refine iteBt ?_ ?_; (focus (first | assumption | decide +kernel)); walk_at "rd")
  | (refine iteBf ?_ ?_; (focus (first | assumption | decide +kernel)); walk_at "rd")
  | (intro _; walk_at "rd") | skip)
namespace Rf
open NdefX LamX
/-- what captured cells held when the running code began they hold still -/
theorem cells_later {X : Cx} {pins : List (Addr × Obj)} {σ : L2.St} {H : Hp} {s : Shared} {cl : List (Str × Addr)} {fr : List Str} {ws : List (Option V)} (I : Inv X pins σ H s) (C : CellsAt cl fr ws X.s_0.heap X.H_0) (hx : ∀ y c, cl.lookup y = some c → c ∉ X.ex) : CellsAt cl fr ws s.heap H := by
  have kp : ∀ y c, cl.lookup y = some c → ∀ v, X.s_0.heap.IsCell c v → s.heap.IsCell c v := fun y c e v ⟨o, ho, hd⟩ => by
    obtain ⟨sl, q⟩ := I.base.any ho (C.all y c e).1 (hx y c e)
    exact ⟨_, q, hd⟩
  refine ⟨C.len, fun y c e => ?_, C.inj, fun i y e => ?_⟩
  · obtain ⟨n, v, o, ho, hd⟩ := C.all y c e
    exact ⟨I.base.free c o ho n (hx y c e), v, kp y c e v ⟨o, ho, hd⟩⟩
  · obtain ⟨c, hc, hv⟩ := C.has i y e
    refine ⟨c, hc, fun v ev => ?_⟩
    obtain ⟨u, r, z⟩ := hv v ev
    exact ⟨u, r, kp y c hc _ z⟩
/-- a(), a a name that holds a lambda without parameters -/
theorem pe_lcall0 {Z : Cx} {W : WX} {E : XK} {k i : Nat} {a : Str} {f : Addr} {F : NF} {e : Expr} {fr : List Str} {ws : List (Option V)} {sp : List (Option V) → Sp} {p1 p2 : Pos} (tk : Takes Z W) (hW : ∀ cls d σ H, E cls d H → W cls d σ H) (LO : LOk Z.prog Z.w Z.K Z.mg Z.base (L2.CX Z.prog Z.w) k f F e [] fr sp) (hr : Room k Z.A)
    (C : CellsAt F.cl fr ws Z.s_0.heap Z.H_0) (hx : ∀ y c, F.cl.lookup y = some c → c ∉ Z.ex) (hN : Z.N[i]? = some a) (hv : Vis Z.env.scope a) (hd : (a == ("__debug__" : Str)) = false := by decide) (hcd : (a == ("__classdict__" : Str)) = false := by decide) :
    PE Z (.Call (.Name a p1) [] [] p2) (fun σ H Q => σ[i]? = some (some (.ref f)) ∧ H f = some (LamO f F e) ∧ H F.c = some (CodeO F.c F.qual) ∧ sp ws [] H Q E) := by
  refine ⟨fun pins s σ H Q I h => ?_⟩
  obtain ⟨hs, hf, hc, q⟩ := h
  refine wpAny_Call_Name_kw (thn ((pe_var (pos := p1) hN hv hd hcd).run pins s σ H (fun v H1 => v = .ref f ∧ H1 = H) I ⟨.ref f, hs, rfl, rfl⟩) fun u s1 hv1 => ?_)
  obtain ⟨v, H1, I1, r1, rfl, rfl⟩ := hv1
  obtain rfl : u = Value.ref f := r1
  obtain ⟨pm, ctv, ho⟩ := lamO_at I1.hok hf
  refine PySem.W.callWith_F0 ⟨_, _, _, _, ho⟩ ?_
  refine wpAny_call (codeAny_mono (LO.run Z.A Z.stack s1 H1 [] [] ws Q E hr I1.env0 hf hc (cells_later I1 C hx) .nil rfl q) fun r s2 hq => ?_)
  cases r with
  | error z => exact passes_call tk hW pins σ H1 s1 z s2 I1 hq
  | ok fl =>
    cases fl with
    | ret w => exact I1.after hq
    | next => exact False.elim hq
    | brk => exact False.elim hq
    | cont => exact False.elim hq
section
variable {P : Program} {w : World} {K : PySem.W.Frag} {mg : Str → Option Value} {base : Heap} {C NS : Addr} (TT : Tb)
/-- what a lambda of the four promises: the exception -/
def sp_ask : List (Option V) → Sp := fun ws vs H Q E => vs = [] ∧ ∃ v1 v2 v3 v4, ws = [some v1, some v2, some v3, some v4] ∧ sp_no (C := C) (NS := NS) TT [v1, v2, v3, v4] H Q E
def askN : List Str := ["_law_network_here", "_law_horizon", "_law_plan_here", "_law_queries"]
/-- one of the four lambdas: what it promises, where its cells are -/
structure AskAt (P : Program) (w : World) (K : PySem.W.Frag) (mg : Str → Option Value) (base : Heap) (C NS : Addr) (TT : Tb) (X : Cx) (js : List Nat) (H : Hp) (f : Addr) : Prop where
  ex : ∃ (F : NF) (e : Expr), H f = some (LamO f F e) ∧ H F.c = some (CodeO F.c F.qual) ∧ (X.Ok → Caps X F.cl askN js) ∧ LOk P w K mg base (L2.CX P w) 12 f F e [] askN (sp_ask (C := C) (NS := NS) TT)
theorem AskAt.ex' {X : Cx} {js : List Nat} {H H' : Hp} {f : Addr} (h : AskAt P w K mg base C NS TT X js H f) (e : Ex TT H H') : AskAt P w K mg base C NS TT X js H' f := by
  obtain ⟨F, b, h1, h2, h3, h4⟩ := h
  exact ⟨F, b, e.at h1 rfl, e.at h2 rfl, h3, h4⟩
/-- the reading of _law_refused(ask) in the comprehension's block -/
def tRefused (P : Program) (w : World) (K : PySem.W.Frag) (mg : Str → Option Value) (base : Heap) (C NS : Addr) (TT : Tb) (X : Cx) (js : List Nat) (i : Nat) (σ0 : L2.St) : TE := fun σ H Q => ∃ f v1 v2 v3 v4, σ[i]? = some (some (.ref f)) ∧ AskAt P w K mg base C NS TT X js H f ∧ js.map (slotAt σ0) = [some v1, some v2, some v3, some v4] ∧
  sp_no (C := C) (NS := NS) TT [v1, v2, v3, v4] H (fun _ _ => False) (fun cls _ H' => cls = .ref NS ∧ Ex TT H H') ∧ ∀ H', Ex TT H H' → Q (.bl true) H'
theorem pe_refused {X : Cx} {pins0 : List (Addr × Obj)} {σ0 : L2.St} {s0 : Shared} {H0 : Hp} {scope : Scope} {cl : List (Str × Addr)} {CC : Addr} {fp : List Addr} {js : List Nat} {i : Nat} {a : Str} {p1 p2 p3 : Pos} (Z : Nx X.K X.mg NS) (D : DefB X.K X.mg "_law_refused" s_l_refused ["_law_ask"]) (I0 : Inv X pins0 σ0 H0 s0) (hfp : ∀ b ∈ fp, FpOk X pins0 H0 b) (hr : Room 13 X.A)
    (hN : X.N[i]? = some a) (hv : Vis (compEnvC scope cl CC X.env).scope a) (hg : (compEnvC scope cl CC X.env).kindOf "_law_refused" = some .globalImplicit) (hd : (a == ("__debug__" : Str)) = false := by decide) (hcd : (a == ("__classdict__" : Str)) = false := by decide) :
    PE (X.blk s0 H0 scope (compEnvC scope cl CC X.env) fp) (.Call (.Name "_law_refused" p1) [.Name a p2] [] p3) (tRefused X.prog X.w X.K X.mg X.base C NS TT X js i σ0) := by
  obtain ⟨g, fd, D, bd⟩ := D
  obtain ⟨oc, od, dV, kV, doc, pm, an, cdv, ct, osl, rfl, lk, hin⟩ := D.fn.ex
  refine ⟨fun pins s σ H Q I h => ?_⟩
  obtain ⟨f, v1, v2, v3, v4, hs, hA, hws, hno, hQ⟩ := h
  obtain ⟨F, e, hf, hc, hcp, LO⟩ := hA
  have hg' : Gl (X.blk s0 H0 scope (compEnvC scope cl CC X.env) fp) "_law_refused" := hg
  refine wpAny_Call_Name_kw (ld_glob I hg' D.mgf ?_ (by decide))
  refine PySem.W.callWith_K (h₀ := X.base) I.ok.mod.kin D.kp (thn ((pa_cons (pe_var (X := X.blk s0 H0 scope (compEnvC scope cl CC X.env) fp) hN hv hd hcd) pa_nil (by rfl)).run p3 pins s σ H (fun vs H1 => vs = [.ref f] ∧ H1 = H) I ⟨.ref f, hs, rfl, rfl⟩) fun us s1 hv1 => ?_) (by rfl) (by rfl)
  obtain ⟨vs, H1, I1, r1, rfl, rfl⟩ := hv1
  refine ⟨I1.kIn, ?_⟩
  obtain rfl := Vals.ref1 r1
  have hcp := hcp I0.ok
  have cc0 := cells_of I0 hcp
  rw [hws] at cc0
  have cc1 : CellsAt F.cl askN [some v1, some v2, some v3, some v4] s1.heap H1 := cells_later I1 cc0 fun y c hy hm => (hfp c hm).2.2.2.2.1 y c (hcp.sub y c hy) rfl
  have run : codeAny (model X.prog X.w) X.A (.call (.ref g) ⟨[.ref f], []⟩) (CR C8.CX0 X.stack X.prog X.w H1 s1 Q C8.E0) s1 := by
    refine run_ofS (N := N_l_refused) (ps := ["_law_ask"]) (us := [.ref f]) (vs := [.ref f]) lk hin sc_l_refused hr I1.env0 (bd s1 [.ref f] I1.kIn rfl) (.cons rfl .nil) rfl fun hr' => ?_
    refine ⟨_, (pss_cons (ps_try_only (X := (cxOf C8.CX0 X.prog X.w X.K X.mg X.base N_l_refused "_law_refused" (C8.fnScope s_l_refused) g cdv X.A X.stack s1 H1 C8.E0).nox) (x := "NotSufficient") (c := .ref NS)
      (tb := fun W D σ H => ∃ Ech : XK, (∀ cls d σ' H', Ech cls d H' → W cls d σ' H') ∧ σ[0]? = some (some (.ref f)) ∧ H f = some (LamO f F e) ∧ H F.c = some (CodeO F.c F.qual) ∧ sp_ask (C := C) (NS := NS) TT [some v1, some v2, some v3, some v4] [] H (fun _ _ => False) Ech)
      rfl rfl ⟨rfl, by decide, .inl Z.gP⟩ LamX.takes0 (fun W pn xe tk _ => ?_) (fun a oe cls d pn _ _ => pss_one (ps_ret pe_bl))) pss_never).nox, ?_⟩
    · refine ⟨fun pins2 s2 σ2 H2 D2 I2 h2 => ?_⟩
      obtain ⟨Ech, hW, g1, g2, g3, g4⟩ := h2
      have hcall := fun q1 q2 => pe_lcall0 (p1 := q1) (p2 := q2) (Z := (cxOf C8.CX0 X.prog X.w X.K X.mg X.base N_l_refused "_law_refused" (C8.fnScope s_l_refused) g cdv X.A X.stack s1 H1 C8.E0).nox.tr pn xe) (E := Ech) (k := 12) (i := 0) (a := "_law_ask") (ws := [some v1, some v2, some v3, some v4]) (fr := askN) (e := e) (F := F) (f := f) (sp := sp_ask (C := C) (NS := NS) TT)
        tk hW LO hr' cc1 (fun y c _ hm => by cases hm) rfl (Or.inl rfl)
      exact (pss_one (ps_expr (hcall _ _))).run pins2 s2 σ2 H2 D2 I2 ⟨g1, g2, g3, by obtain ⟨_, z1, z2, z3, z4, ez, hz⟩ := g4; exact ⟨rfl, z1, z2, z3, z4, ez, hz⟩⟩
    · refine ⟨fun cls _ H' => cls = .ref NS ∧ Ex TT H1 H', fun cls d σ' H' z => ?_, rfl, hf, hc, rfl, v1, v2, v3, v4, rfl, hno⟩
      obtain ⟨rfl, ez⟩ := z
      exact ⟨true, Z.eP, fun _ a _ => hQ H' ez, fun z => by cases z⟩
  refine wpAny_call (codeAny_mono run fun r s2 hq => ?_)
  cases r with
  | error z => exact (show False from hq).elim
  | ok fl =>
    cases fl with
    | ret u => exact I1.after hq
    | next => exact False.elim hq
    | brk => exact False.elim hq
    | cont => exact False.elim hq
end
end Rf
end

set_option Elab.async false
set_option linter.all false
set_option maxRecDepth 100000
set_option maxHeartbeats 4000000
set_option pp.maxSteps 1500
section
open PySem PySem.Spec PyProof.Rows L2 Rf
local macro_rules | `(tactic| walk_at "up") => `(tactic| first | assumption | exact Ex.refl _ | exact upd_same | (apply upd_at; (focus assumption); walk_at "up") | (apply upd_at'; (focus assumption); walk_at "up") | (apply Ex.mutL; (focus (walk_at "up")); (focus (walk_at "up")); walk_at "up") | (apply Ex.mutD; (focus (walk_at "up")); (focus (walk_at "up")); walk_at "up") | (apply Ex.free'; (focus assumption); walk_at "up") | (apply Ex.atT; (focus assumption); walk_at "up") | (apply Ex.atL; (focus assumption); walk_at "up") | (apply Ex.atD; (focus assumption); walk_at "up") | (apply Ex.atI; (focus assumption); walk_at "up") | (apply Ex.atF; (focus assumption); walk_at "up") | (apply Ex.then'; (focus assumption); walk_at "up") | (apply NetAt.ex; (focus assumption); walk_at "up") | (apply PartsAt.ex; (focus assumption); walk_at "up") | (apply PlanAt.ex; (focus assumption); walk_at "up") | (apply QrsAt.ex; (focus assumption); walk_at "up") | (apply SrcD.ex; (focus assumption); walk_at "up") | (apply VwD.ex; (focus assumption); walk_at "up") | (apply SeqIs.ex; (focus assumption); walk_at "up") | (apply NetAt.ex'; (focus assumption); walk_at "up") | (apply PartsAt.ex'; (focus assumption); walk_at "up") | (apply PlanAt.ex'; (focus assumption); walk_at "up") | (apply QrsAt.ex'; (focus assumption); walk_at "up") | (apply SrcD.ex'; (focus assumption); walk_at "up") | (apply VwD.ex'; (focus assumption); walk_at "up") | (apply SeqIs.ex'; (focus assumption); walk_at "up") | (apply Ex.atT'; (focus assumption); walk_at "up") | (apply Ex.atL'; (focus assumption); walk_at "up") | (apply Ex.atD'; (focus assumption); walk_at "up") | (apply Ex.atI'; (focus assumption); walk_at "up") | (with_reducible apply FrmAt.ex'; (focus assumption); walk_at "up") | (with_reducible apply VwAt.ex'; (focus assumption); walk_at "up") | (with_reducible apply RowAt.ex'; (focus assumption); walk_at "up") | (with_reducible apply SrcAt.ex'; (focus assumption); walk_at "up") | (with_reducible apply QryAt.ex'; (focus assumption); walk_at "up") | (with_reducible apply Rows.ex'; (focus assumption); walk_at "up") | (with_reducible apply StAt.exE; (focus assumption); walk_at "up") | (with_reducible apply sqU; (focus assumption); assumption) | (with_reducible apply sqE; (focus assumption); walk_at "up") | (with_reducible apply sqM; (focus assumption); (focus (walk_at "ne")); walk_at "up") | (with_reducible apply Ex.tabs'; (focus assumption); walk_at "up") | (with_reducible apply Ex.thenM; (focus assumption); (focus (walk_at "up")); walk_at "up") | (with_reducible apply Ex.thenMM; (focus assumption); walk_at "up") | (with_reducible apply atML; (focus assumption); (focus (walk_at "ne")); walk_at "up") | (with_reducible apply atMD; (focus assumption); (focus (walk_at "ne")); walk_at "up") | (with_reducible apply atMT; (focus assumption); (focus (walk_at "ne")); walk_at "up"))
local macro_rules | `(tactic| walk_at "ne") => `(tactic| first | assumption | (apply ne_st; (focus assumption); (walk_at "up")))
local macro_rules | `(tactic| walk_at "sv") => `(tactic| first | rfl | assumption | exact Ex.refl _ | exact ClsV.ty _ | (apply TyX.base; first | exact TyOf.int _ | exact TyOf.str _ | exact TyOf.bl _ | (apply TyOf.tup; walk_at "up") | (apply TyOf.lst; walk_at "up") | (apply TyOf.dK; walk_at "up")) | exact kit_ty (by decide +kernel) | (apply Rd.of; walk_at "up") | (apply DGet_some; (focus (walk_at "up")); assumption) | (apply DGet_f; (focus (walk_at "up")); assumption) | (apply DGet_s; walk_at "up") | (apply DPut_s; (focus (walk_at "up")); omega) | (apply sz5; simp only [List.length_map, List.length_append, List.length_cons, List.length_nil]; omega) | (apply sz4; simp only [List.length_map, List.length_append, List.length_cons, List.length_nil]; omega) | (apply SqL.of; walk_at "up") | (apply SqT.of; walk_at "up") | (apply Or.inl; apply SqL.of; walk_at "up") | (apply Or.inr; apply SqT.of; walk_at "up") | (apply Exists.intro; first | (apply SqL.of; walk_at "up") | (apply SqT.of; walk_at "up")) | exact flatStrs _ | (apply dp_nil; walk_at "up") | (apply dp_strs; walk_at "up") | (apply dp_ints; walk_at "up") | (apply dp_row; walk_at "up") | (apply dp_rowL; walk_at "up") | (apply dp_rows; (focus (walk_at "up")); walk_at "up") | exact shaped_nil | exact shaped_ints | (apply shaped_strs; assumption) | (apply shaped_rows; assumption) | (apply shaped_row; assumption) | (with_reducible apply RowAt.mk; walk_at "up") | (apply tyL; walk_at "up") | (apply tyD; walk_at "up") | (with_reducible apply cmul_r; constructor <;> omega) | (with_reducible apply cmul_l; constructor <;> omega) | (with_reducible apply cdiv_i; constructor <;> omega) | walk_at "up" | (with_reducible apply ne_st; (focus assumption); walk_at "up") | omega | (dsimp only; omega) | decide | (simp only [List.length_map, List.length_append, List.length_cons, List.length_nil]; omega))
local macro_rules | `(tactic| walk_at "cn") => `(tactic| first | assumption | omega | (dsimp only; omega) | (simp only [List.length_map, List.length_append, List.length_cons, List.length_nil, List.length_reverse]; omega) | decide)
local macro_rules | `(tactic| walk_at "rd") => `(tactic| first
  | (with_reducible show LcGo _ _ _ _ _ _ _ _)
  | (with_reducible show DcGo _ _ _ _ _ _ _ _ _)
  | (with_reducible show ForGo _ _ _ _ _ _)
  | (refine allocI (fun p hp => ?_); generalize hh : upd _ _ _ = H2; have e := exNew (T := ‹Tb›) hh hp; have h := updAt hh; clear hh; walk_at "rd")
  | (apply And.intro; (focus (walk_at "sv")); walk_at "rd")
  | (apply Exists.intro; walk_at "rd")
  | (refine iteY ?_ ?_; (focus (walk_at "cn")); walk_at "rd")
  | (refine iteN ?_ ?_; (focus (walk_at "cn")); walk_at "rd")
  | (refine iteY' ?_ ?_; (focus (walk_at "cn")); walk_at "rd")
  | (refine iteN' ?_ ?_; (focus (walk_at "cn")); walk_at "rd")
  | (refine iteBt ?_ ?_; (focus (first | assumption | decide +kernel)); walk_at "rd")
  | (refine iteBf ?_ ?_; (focus (first | assumption | decide +kernel)); walk_at "rd")
  | (intro _; walk_at "rd") | skip)
namespace Rf
section
/-- a heap, but for what stands at the state -/
def ms (sa : Addr) (H : Hp) : Hp := fun b => if b = sa then some (.own 0) else H b
variable {T : Tb} {H H1 H' : Hp} {sa a : Addr} {o : HO}
theorem ms_at (h : ms sa H a = some o) (n : o ≠ .own 0) : H a = some o := by
  unfold ms at h
  by_cases e : a = sa
  · rw [if_pos e] at h
    exact absurd (Option.some.inj h).symm n
  · rwa [if_neg e] at h
theorem at_ms (h : H a = some o) (n : a ≠ sa) : ms sa H a = some o := by
  unfold ms
  rw [if_neg n]
  exact h
theorem ms_ne {b : Addr} (n : b ≠ sa) : ms sa H b = H b := by unfold ms; rw [if_neg n]
theorem ms_none (h : ms sa H a = none) : H a = none := by
  unfold ms at h
  by_cases e : a = sa
  · rw [if_pos e] at h
    cases h
  · rwa [if_neg e] at h
theorem wr_tbl {u : HO} (w : Wr u = true) : noTbl u = true := by cases u <;> first | rfl | cases w
theorem tabs_ms {u : HO} (hs : H sa = some u) (w : Wr u = true) : LamX.Tabs T (ms sa H) ↔ LamX.Tabs T H := by
  have ne1 : ∀ {b ps}, H b = some (.tbl ps) → b ≠ sa := fun {b ps} h z => by rw [z, hs] at h; cases h; cases w
  have ne2 : ∀ {b q}, H b = some (LamX.CodeO b q) → b ≠ sa := fun {b q} h z => by
    rw [z, hs] at h
    unfold LamX.CodeO at h
    cases h
    cases w
  constructor
  · intro t p hp
    obtain ⟨ps, h1, h2, h3⟩ := t p hp
    refine ⟨ps, ms_at h1 (fun z => by cases z), h2, fun pos cv hc => ?_⟩
    obtain ⟨c, e1, e2⟩ := h3 pos cv hc
    exact ⟨c, e1, ms_at e2 (fun z => by unfold LamX.CodeO at z; cases z)⟩
  · intro t p hp
    obtain ⟨ps, h1, h2, h3⟩ := t p hp
    refine ⟨ps, at_ms h1 (ne1 h1), h2, fun pos cv hc => ?_⟩
    obtain ⟨c, e1, e2⟩ := h3 pos cv hc
    exact ⟨c, e1, at_ms e2 (ne2 e2)⟩
theorem Ex.mask {u : HO} (e : Ex T H H') (hs : H sa = some u) (w : Wr u = true) : Ex T (ms sa H) (ms sa H') := by
  have hs' := e.at hs (wr_tbl w)
  refine ⟨fun b o h n => ?_, fun b h => ?_, fun t => (tabs_ms hs' w).mpr (e.tb ((tabs_ms hs w).mp t))⟩
  · by_cases z : b = sa
    · unfold ms at h ⊢
      rw [if_pos z] at h ⊢
      exact h
    · rw [ms_ne z] at h ⊢
      exact e.ob b o h n
  · by_cases z : b = sa
    · unfold ms at h
      rw [if_pos z] at h
      cases h
    · rw [ms_ne z] at h ⊢
      exact e.al b h
theorem ms_upd (sa : Addr) (o : HO) (H : Hp) : ms sa (upd H sa o) = ms sa H := by
  funext b
  by_cases z : b = sa
  · unfold ms
    rw [if_pos z, if_pos z]
  · rw [ms_ne z, ms_ne z, upd_ne z]
theorem ms_refl (sa : Addr) (H : Hp) : Ex T (ms sa H) (ms sa H) := Ex.refl _
/-- the state: the script, where it starts, how often it was asked -/
def StAt (H : Hp) (sa sc : Addr) (b : Int) : Prop := ∃ c : Int, 0 ≤ c ∧ H sa = some (.lst [.ref sc, .int b, .int c])
variable {sc : Addr} {b : Int} {xs : List V} {kvs : List (Key × V)}
theorem StAt.ex' (h : StAt H sa sc b) (e : Ex T H H') : StAt H' sa sc b := let ⟨c, a, z⟩ := h; ⟨c, a, e.at z⟩
theorem StAt.exE (e : Ex T H H') (h : StAt H sa sc b) : StAt H' sa sc b := h.ex' e
theorem Ex.thenM (e : Ex T H1 H') (st : StAt H1 sa sc b) (k : Ex T (ms sa H) (ms sa H1)) : Ex T (ms sa H) (ms sa H') := let ⟨_, _, z⟩ := st; k.trans (e.mask z rfl)
theorem Ex.thenMM (e : Ex T (ms sa H1) (ms sa H')) (k : Ex T (ms sa H) (ms sa H1)) : Ex T (ms sa H) (ms sa H') := k.trans e
theorem atML (e : Ex T (ms sa H) (ms sa H')) (n : a ≠ sa) (h : H a = some (.lst xs)) : H' a = some (.lst xs) := ms_at (e.at (at_ms h n)) fun z => nomatch z
theorem sqM {K : PySem.W.Frag} (h : SqL K H a xs) (n : a ≠ sa) (e : Ex T (ms sa H) (ms sa H')) : SqL K H' a xs := by
  rcases h with (h | ⟨o, h⟩) | h
  · exact .inl (.inl (atML e n h))
  · exact .inl (.inr ⟨o, ms_at (e.at (at_ms h n)) fun z => nomatch z⟩)
  · exact .inr h
theorem atMD (e : Ex T (ms sa H) (ms sa H')) (n : a ≠ sa) (h : H a = some (.dK kvs)) : H' a = some (.dK kvs) := ms_at (e.at (at_ms h n)) fun z => nomatch z
theorem atMT (e : Ex T (ms sa H) (ms sa H')) (n : a ≠ sa) (h : H a = some (.tup xs)) : H' a = some (.tup xs) := ms_at (e.at (at_ms h n)) fun z => nomatch z
theorem ne_st (h : H a = none) (st : StAt H sa sc b) : a ≠ sa := fun z => by
  obtain ⟨c, _, q⟩ := st
  rw [z, q] at h
  cases h
theorem StAt.neT (st : StAt H sa sc b) (h : H a = some (.tup xs)) : a ≠ sa := fun z => by
  obtain ⟨c, _, q⟩ := st
  rw [z, q] at h
  cases h
theorem StAt.neD (st : StAt H sa sc b) (h : H a = some (.dK kvs)) : a ≠ sa := fun z => by
  obtain ⟨c, _, q⟩ := st
  rw [z, q] at h
  cases h
theorem tuM (st : StAt H sa sc b) (e : Ex T (ms sa H) (ms sa H')) : Tu H H' := fun c xs h => atMT e (st.neT h) h
theorem PartsAt.exM {v : V} {N : Net} (h : PartsAt H v N) (st : StAt H sa sc b) (e : Ex T (ms sa H) (ms sa H')) : PartsAt H' v N := by
  obtain ⟨p, d1, d2, a, hp, ⟨k1, e1, g1⟩, ⟨k2, e2, g2⟩⟩ := h
  exact ⟨p, d1, d2, a, tuM st e _ _ hp, ⟨k1, atMD e (st.neD e1) e1, DctAt.imp g1 fun _ _ z => z.tu (tuM st e)⟩, ⟨k2, atMD e (st.neD e2) e2, DctAt.imp g2 fun _ _ z => z.tu (tuM st e)⟩⟩
theorem mut_ms {p : Addr} {u o : HO} (e : Ex T (ms sa H) (ms sa H')) (h0 : H p = none) (n : p ≠ sa) (h : H' p = some u) (w : Wr u = true := by rfl) (m : noTbl o = true := by rfl) : Ex T (ms sa H) (ms sa (upd H' p o)) := by
  have := Ex.mut (o := o) e (p := p) (by rw [ms_ne n]; exact h0) (by rw [ms_ne n]; exact h) w m
  have eq : upd (ms sa H') p o = ms sa (upd H' p o) := by
    funext b
    by_cases z : b = sa
    · rw [z, upd_ne (Ne.symm n)]
      unfold ms
      rw [if_pos rfl, if_pos rfl]
    · rw [ms_ne z]
      by_cases q : b = p
      · rw [q, upd_same, upd_same]
      · rw [upd_ne q, upd_ne q, ms_ne z]
  rw [eq] at this
  exact this
theorem StAt.upd' {p : Addr} {o : HO} (st : StAt H sa sc b) (n : p ≠ sa) : StAt (upd H p o) sa sc b := let ⟨c, a, z⟩ := st; ⟨c, a, by rw [upd_ne (Ne.symm n)]; exact z⟩
/-- a comprehension whose turns turn the state -/
theorem lc_pureM {J : It} {n : Nat} {G : Hp → Prop} {Y : Nat → Hp → V → Hp → Prop} {g : TG} {tt : TT} {te : TE} {vs : List Nat} {σ : L2.St} {Q : VK} (st0 : StAt H sa sc b) (wk : Walk J n G Y) (hn : n ≤ 40000) (hG : ∀ H', StAt H' sa sc b → Ex T (ms sa H) (ms sa H') → G H') (I : Nat → List V → Hp → Prop) (mono : ∀ i ys Ha Hb, Tu Ha Hb → I i ys Ha → I i ys Hb) (i0 : I 0 [] H)
    (step : ∀ i ys x Hc Hc' (K1 : V → Hp → Prop) (K0 : Hp → Prop), i < n → Ex T (ms sa H) (ms sa Hc) → StAt Hc sa sc b → I i ys Hc → Y i Hc x Hc' → (∀ y H4, Ex T (ms sa Hc) (ms sa H4) → StAt H4 sa sc b → I (i + 1) (ys ++ [y]) H4 → K1 y H4) → (∀ H3, Ex T (ms sa Hc) (ms sa H3) → StAt H3 sa sc b → I (i + 1) ys H3 → K0 H3) →
      g x (wipe σ vs) Hc' fun σ2 H2 => wipe σ2 vs = wipe σ vs ∧ tt σ2 H2 fun b H3 => if b = true then te σ2 H3 K1 else K0 H3)
    (done : ∀ D ys H2, H D = none → Ex T (ms sa H) (ms sa H2) → StAt H2 sa sc b → H2 D = some (.lst ys) → I n ys H2 → Q (.ref D) H2) :
    LcGo J g tt te vs σ H Q := by
  intro D hD
  have hne : D ≠ sa := ne_st hD st0
  have e0 : Ex T (ms sa H) (ms sa (upd H D (.lst []))) := by
    obtain ⟨_, _, z⟩ := st0
    exact (Ex.new hD).mask z rfl
  refine lc_it wk (fun i H' => ∃ ys, ys.length ≤ i ∧ H' D = some (.lst ys) ∧ Ex T (ms sa H) (ms sa H') ∧ StAt H' sa sc b ∧ I i ys H') ⟨[], Nat.le_refl _, upd_same, e0, st0.upd' hne, mono _ _ _ _ (Tu.new hD) i0⟩ (fun i H' _ ⟨_, _, _, e, st, _⟩ => hG _ st e) ?_ ?_
  · rintro i x Hc Hc' hi ⟨ys, hl, hd, e, st, q⟩ y
    refine step i ys x Hc Hc' (fun y H4 => ∃ acc, H4 D = some (.lst acc) ∧ acc.length < sizeLine ∧ (∃ ys, ys.length ≤ i + 1 ∧ upd H4 D (.lst (acc ++ [y])) D = some (.lst ys) ∧ Ex T (ms sa H) (ms sa (upd H4 D (.lst (acc ++ [y])))) ∧ StAt (upd H4 D (.lst (acc ++ [y]))) sa sc b ∧ I (i + 1) ys (upd H4 D (.lst (acc ++ [y])))))
      (fun H3 => ∃ ys, ys.length ≤ i + 1 ∧ H3 D = some (.lst ys) ∧ Ex T (ms sa H) (ms sa H3) ∧ StAt H3 sa sc b ∧ I (i + 1) ys H3) hi e st q y (fun y H4 e4 st4 q4 => ?_) (fun H3 e3 st3 q3 => ⟨ys, Nat.le_succ_of_le hl, atML e3 hne hd, e.trans e3, st3, q3⟩)
    have hd4 := atML e4 hne hd
    exact ⟨ys, hd4, sz4 (by omega), _, by rw [List.length_append, List.length_singleton]; omega, upd_same, mut_ms (e.trans e4) hD hne hd4, st4.upd' hne, mono _ _ _ _ (Tu.set hd4) q4⟩
  · rintro H' ⟨ys, _, hd, e, st, q⟩
    exact done D ys H' hD e st hd q
/-- over the items of l -/
theorem lc_mapM {J : It} {G : Hp → Prop} {Y : Nat → Hp → V → Hp → Prop} {g : TG} {te : TE} {vs : List Nat} {σ : L2.St} {Q : VK} {β γ : Type} (st0 : StAt H sa sc b) (l : List β) (R : Hp → V → γ → Prop) (B : β → γ → Prop) (mono : ∀ y c Ha Hb, Tu Ha Hb → R Ha y c → R Hb y c) (wk : Walk J l.length G Y) (hn : l.length ≤ 40000) (hG : ∀ H', StAt H' sa sc b → Ex T (ms sa H) (ms sa H') → G H')
    (step : ∀ i x y Hc Hc' (K1 : V → Hp → Prop) (K0 : Hp → Prop), l[i]? = some x → Ex T (ms sa H) (ms sa Hc) → StAt Hc sa sc b → Y i Hc y Hc' → (∀ z c H4, Ex T (ms sa Hc) (ms sa H4) → StAt H4 sa sc b → R H4 z c → B x c → K1 z H4) →
      g y (wipe σ vs) Hc' fun σ2 H2 => wipe σ2 vs = wipe σ vs ∧ tYes σ2 H2 fun b H3 => if b = true then te σ2 H3 K1 else K0 H3)
    (done : ∀ D ys cs H2, H D = none → Ex T (ms sa H) (ms sa H2) → StAt H2 sa sc b → H2 D = some (.lst ys) → Paired (R H2) ys cs → Paired B l cs → Q (.ref D) H2) :
    LcGo J g tYes te vs σ H Q := by
  refine lc_pureM (T := T) st0 wk hn hG (fun i ys H' => ∃ cs, Paired (R H') ys cs ∧ Paired B (l.take i) cs) (fun i ys Ha Hb t ⟨cs, h, h2⟩ => ⟨cs, Paired.imp h fun a b k => mono a b _ _ t k, h2⟩) ⟨[], .nil, by rw [List.take_zero]; exact .nil⟩ ?_ ?_
  · rintro i ys x Hc Hc' K1 K0 hi e st ⟨cs, q, q2⟩ y k1 k0
    obtain ⟨xb, hb⟩ : ∃ b, l[i]? = some b := ⟨l[i], by simp [hi]⟩
    refine step i xb x Hc Hc' K1 K0 hb e st y (fun z c H4 e4 st4 r bb => k1 z H4 e4 st4 ⟨cs ++ [c], Paired.appendP (Paired.imp q fun a b k => mono a b _ _ (tuM st e4) k) (.cons r .nil), ?_⟩)
    rw [List.take_add_one, hb]
    exact Paired.appendP q2 (.cons bb .nil)
  · rintro D ys H2 hD e st hd ⟨cs, q, q2⟩
    rw [List.take_length] at q2
    exact done D ys cs H2 hD e st hd q q2
end
section
variable {P : Program} {w : World} {K : PySem.W.Frag} {mg : Str → Option Value} {base : Heap} {C : Addr} (TT : Tb)
/-- a cell that a script may hold -/
def Small (i : Int) : Prop := i.natAbs.log2 < 1000000000
def sp_l_cell_at (K : PySem.W.Frag) : Sp := fun vs H Q _ => ∃ p ns i, vs = [.ref p, .int i] ∧ SqL K H p (ns.map V.int) ∧ 0 ≤ i ∧ (ns : List Int).length ≤ 100 ∧ ∀ r : Int, (r ∈ ns ∨ r = 0) → Q (.int r) H
theorem cal_l_cell_at (T : Tx K mg C) (D : DefB K mg "_law_cell_at" s_l_cell_at ["_law_script", "_law_k"]) : C8.Cal P w K mg base 1 "_law_cell_at" (sp_l_cell_at K) [] := by
  refine cal_of D sc_l_cell_at (fun vs H Q E h => by obtain ⟨_, _, _, rfl, _⟩ := h; rfl) (fun fa cdv A outer s H vs Q E hr h => ?_)
  obtain ⟨p, ns, i, rfl, hp, hi, hl, k⟩ := h
  have nd := sc_l_cell_at.nd
  have hL : (ns.map V.int).length = ns.length := List.length_map _
  have hsq : SqL K H p (ns.map V.int) ∨ SqT K H p (ns.map V.int) := .inl hp
  by_cases h : i < (ns.length : Int)
  · obtain ⟨x, hx⟩ : ∃ x, ns[i.toNat]? = some x := ⟨ns[i.toNat]'(by omega), List.getElem?_eq_getElem _⟩
    have hat : atI (ns.map V.int) i = some (V.int x) := by
      have := atI_nat (xs := ns.map V.int) (j := i.toNat) (v := V.int x) (by rw [List.getElem?_map, hx]; rfl)
      rwa [Int.toNat_of_nonneg hi] at this
    refine ⟨_, (pss_cons (ps_if (pt_cmpR op_lt (pv 1) (pe_callB call_len_seq (by rfl) T.n_len (by decide +kernel) (pa_cons (pv 0) pa_nil)) (nomark _)) (pss_one (ps_ret (pe_ix ix_list (pv 0) (pv 1) (fun _ _ => rfl)))) pss_nil)
        (pss_one (ps_ret pe_int))), ?_⟩
    walk_at "rd"
    exact k x (.inl (List.mem_of_getElem? hx))
  · skip
    refine ⟨_, (pss_cons (ps_if (pt_cmpR op_lt (pv 1) (pe_callB call_len_seq (by rfl) T.n_len (by decide +kernel) (pa_cons (pv 0) pa_nil)) (nomark _)) (pss_one (ps_ret (pe_ix ix_list (pv 0) (pv 1) (fun _ _ => rfl)))) pss_nil)
        (pss_one (ps_ret pe_int))), ?_⟩
    walk_at "rd"
    exact k 0 (.inr rfl)
def sp_l_draw : Sp := fun vs H Q _ => ∃ c k b : Int, vs = [.int c, .int k, .int b] ∧ 0 ≤ k ∧ k ≤ 100 ∧ 0 ≤ c ∧ 0 < b ∧ ∀ r H', 0 ≤ r → r < b → Ex TT H H' → Q (.int r) H'
theorem cal_l_draw (T : Tx K mg C) (D : DefB K mg "_law_draw" s_l_draw ["_law_cell", "_law_k", "_law_below"]) : C8.Cal P w K mg base 1 "_law_draw" (sp_l_draw TT) [] := by
  refine cal_of D sc_l_draw (fun vs H Q E h => by obtain ⟨_, _, _, rfl, _⟩ := h; rfl) (fun fa cdv A outer s H vs Q E hr h => ?_)
  obtain ⟨c, kk, b, rfl, k0, k1, c0, hb, k⟩ := h
  have nd := sc_l_draw.nd
  have k16 : 0 ≤ kk % 16 ∧ kk % 16 < 16 := ⟨Int.emod_nonneg _ (by omega), Int.emod_lt_of_pos _ (by omega)⟩
  have hk : ∃ i : Nat, kk % 16 = (i : Int) ∧ i < 16 := ⟨(kk % 16).toNat, by omega, by omega⟩
  obtain ⟨i, hi, hi16⟩ := hk
  have prime : ∃ q : Int, atI ([1000003, 1000033, 1000037, 1000039, 1000081, 1000099, 1000117, 1000121, 1000133, 1000151, 1000159, 1000171, 1000183, 1000187, 1000193, 1000199].map V.int) (kk % 16) = some (V.int q) ∧ 0 < q := by
    rw [hi]
    obtain ⟨q, hq, h0⟩ : ∃ q : Int, ([1000003, 1000033, 1000037, 1000039, 1000081, 1000099, 1000117, 1000121, 1000133, 1000151, 1000159, 1000171, 1000183, 1000187, 1000193, 1000199] : List Int)[i]? = some q ∧ 0 < q := by
      refine ⟨_, List.getElem?_eq_getElem (by simpa using hi16), ?_⟩
      have : ∀ x ∈ ([1000003, 1000033, 1000037, 1000039, 1000081, 1000099, 1000117, 1000121, 1000133, 1000151, 1000159, 1000171, 1000183, 1000187, 1000193, 1000199] : List Int), 0 < x := by decide
      exact this _ (List.getElem_mem _)
    exact ⟨q, atI_nat (by rw [List.getElem?_map, hq]; rfl), h0⟩
  obtain ⟨q, hat, hq0⟩ := prime
  have hat : atI [V.int 1000003, V.int 1000033, V.int 1000037, V.int 1000039, V.int 1000081, V.int 1000099, V.int 1000117, V.int 1000121, V.int 1000133, V.int 1000151, V.int 1000159, V.int 1000171, V.int 1000183, V.int 1000187, V.int 1000193, V.int 1000199] (kk % 16) = some (V.int q) := hat
  refine ⟨_, (pss_cons (ps_set (i := 3) nd rfl (Or.inl rfl) (pe_tup (pa_cons pe_int (pa_cons pe_int (pa_cons pe_int (pa_cons pe_int (pa_cons pe_int (pa_cons pe_int (pa_cons pe_int (pa_cons pe_int (pa_cons pe_int (pa_cons pe_int (pa_cons pe_int (pa_cons pe_int (pa_cons pe_int (pa_cons pe_int (pa_cons pe_int (pa_cons pe_int pa_nil))))))))))))))))))
      (pss_one (ps_ret (pe_op op_mod (pe_op op_mod (pe_op op_add (pe_op op_mul (pv 0) pe_int) (pe_op op_mul (pv 1) pe_int)) (pe_ix ix_tup (pv 3) (pe_op op_mod (pv 1) pe_int) (fun _ _ => rfl))) (pv 2))))), ?_⟩
  walk_at "rd"
  exact k _ _ (Int.emod_nonneg _ (by omega)) (Int.emod_lt_of_pos _ hb) ‹_›
theorem pow_ok : ∀ i : Nat, i < 25 → ((1009 : Int) ^ i).natAbs.log2 < 9000 ∧ 0 < (1009 : Int) ^ i := by
  have : ∀ i ∈ List.range 25, ((1009 : Int) ^ i).natAbs.log2 < 9000 ∧ 0 < (1009 : Int) ^ i := by decide +kernel
  exact fun i hi => this i (List.mem_range.mpr hi)
theorem cmulw {i j : Int} (h : i.natAbs.log2 + j.natAbs.log2 < 1000000) : CMulW i j := h
theorem cdivw {i j : Int} (h : 0 < j ∧ j.natAbs.log2 < 9000) : CDivW i j := h
def sp_l_number : Sp := fun vs H Q _ => ∃ c k b : Int, vs = [.int c, .int k, .int b] ∧ 0 ≤ k ∧ k ≤ 20 ∧ 0 < b ∧ ∀ r H', 0 ≤ r → r < b → Ex TT H H' → Q (.int r) H'
theorem cal_l_number (T : Tx K mg C) (D : DefB K mg "_law_number" s_l_number ["_law_cell", "_law_k", "_law_below"]) (c_l_draw : C8.Cal P w K mg base 1 "_law_draw" (sp_l_draw TT) []) : C8.Cal P w K mg base 2 "_law_number" (sp_l_number TT) [] := by
  refine cal_of D sc_l_number (fun vs H Q E h => by obtain ⟨_, _, _, rfl, _⟩ := h; rfl) (fun fa cdv A outer s H vs Q E hr h => ?_)
  obtain ⟨c, kk, b, rfl, k0, k1, hb, k⟩ := h
  have nd := sc_l_number.nd
  have k24 : 0 ≤ kk % 24 ∧ kk % 24 < 24 := ⟨Int.emod_nonneg _ (by omega), Int.emod_lt_of_pos _ (by omega)⟩
  have k9 : 0 ≤ kk % 9 ∧ kk % 9 < 9 := ⟨Int.emod_nonneg _ (by omega), Int.emod_lt_of_pos _ (by omega)⟩
  refine ⟨_, (pss_cons (ps_set (i := 3) nd rfl (Or.inl rfl) pe_int)
      (pss_cons (forX (ps_for PassesOwn.never rfl (pi_range1 (by rfl) T.n_range (pa_cons (pe_op op_mod (pv 1) pe_int) pa_nil)) (pg_name (i := 4) nd rfl (Or.inl rfl) (by first | exact Or.inr rfl | exact Or.inl rfl))
      (pss_one (ps_set (i := 3) nd rfl (Or.inl rfl) (pe_op op_mulW (pv 3) pe_int)))))
      (pss_cons (ps_set (i := 5) nd rfl (Or.inl rfl) (pe_op op_fdivW (pe_op op_sub (pv 0) (pe_op op_pow pe_int pe_int)) (pv 3)))
      (pss_cons (ps_if (pt_cmpR op_gt (pv 5) pe_int (nomark _)) (pss_one (ps_ret (pe_op op_mod (pe_op op_mod (pv 5) pe_int) (pv 2)))) pss_nil)
      (pss_cons (ps_set (i := 6) nd rfl (Or.inl rfl) (pe_op op_mod (pv 0) pe_int))
      (pss_one (ps_ret (pe_op op_mod (C8.pe_c c_l_draw hr (by first | decide | omega) (by rfl) (pa_cons (pe_op op_mul (pe_op op_add (pv 6) (pe_op op_mul pe_int (pv 1))) (pe_op op_add (pe_op op_add (pv 6) (pe_op op_mul pe_int (pv 1))) pe_int)) (pa_cons (pe_op op_add (pe_op op_mod (pv 1) pe_int) pe_int) (pa_cons pe_int pa_nil)))) (pv 2))))))))), ?_⟩
  walk_at "rd"
  refine for_goB walk_range (fun i σ Hx => ∃ u, σ = [some (.int c), some (.int kk), some (.int b), some (.int (1009 ^ i)), u, none, none] ∧ Hx = H ∧ i ≤ 24) ⟨none, rfl, rfl, Nat.zero_le _⟩ (fun _ _ _ _ _ => trivial) ?_ ?_
  · rintro i x σ Hc Hc' hi ⟨u, rfl, rfl, h24⟩ yy
    obtain ⟨rfl, hx⟩ := yy
    have hx : x = V.int (0 + (i : Nat)) := hx
    subst hx
    have p1 := pow_ok i (by omega)
    have hm : CMulW (1009 ^ i) 1009 := cmulw (by
      have : (1009 : Int).natAbs.log2 < 10 := by decide
      omega)
    walk_at "rd"
    exact ⟨⟨_, by rw [Int.pow_succ]; rfl, rfl, by omega⟩⟩
  · rintro σ Hc ⟨u, rfl, rfl, h24⟩
    have p1 := pow_ok (kk % 24).toNat (by omega)
    have hdv : ∀ z : Int, CDivW z (1009 ^ (kk % 24).toNat) := fun z => cdivw ⟨p1.2, p1.1⟩
    have cp : CPow 10 18 := ⟨by decide, by decide, by decide⟩
    have hdv1 := hdv (c - 10 ^ (18 : Int).toNat)
    generalize hR : (c - 10 ^ (18 : Int).toNat) / 1009 ^ (kk % 24).toNat = R
    have hs : 0 ≤ c % 1000003 ∧ c % 1000003 < 1000003 := ⟨Int.emod_nonneg _ (by omega), Int.emod_lt_of_pos _ (by omega)⟩
    walk_at "rd"
    refine ite2 (fun hc => ?_) (fun hc => ?_)
    · walk_at "rd"
      exact k _ _ (Int.emod_nonneg _ (by omega)) (Int.emod_lt_of_pos _ hb) (Ex.refl _)
    · have hpos : 0 ≤ (c % 1000003 + 977 * kk) * (c % 1000003 + 31 * kk + 5) := Int.mul_nonneg (by omega) (by omega)
      walk_at "rd"
      exact k _ _ (Int.emod_nonneg _ (by omega)) (Int.emod_lt_of_pos _ hb) (by walk_at "up")
def sp_l_next (K : PySem.W.Frag) : Sp := fun vs H Q _ => ∃ sa sc ns b0 b, vs = [.ref sa, .int b] ∧ StAt H sa sc b0 ∧ 0 ≤ b0 ∧ SqL K H sc ((ns : List Int).map V.int) ∧ ns.length ≤ 100 ∧ sc ≠ sa ∧ 0 < b ∧ ∀ r H', 0 ≤ r → r < b → Ex TT (ms sa H) (ms sa H') → StAt H' sa sc b0 → Q (.int r) H'
theorem cal_l_next (T : Tx K mg C) (D : DefB K mg "_law_next" s_l_next ["_law_state", "_law_below"]) (c_l_cell_at : C8.Cal P w K mg base 1 "_law_cell_at" (sp_l_cell_at K) []) (c_l_number : C8.Cal P w K mg base 2 "_law_number" (sp_l_number TT) []) : C8.Cal P w K mg base 3 "_law_next" (sp_l_next TT K) [] := by
  refine cal_of D sc_l_next (fun vs H Q E h => by obtain ⟨_, _, _, _, _, rfl, _⟩ := h; rfl) (fun fa cdv A outer s H vs Q E hr h => ?_)
  obtain ⟨sa, sc, ns, b0, b, rfl, ⟨c, c0, hsa⟩, hb0, hsc, hln, nss, hb, k⟩ := h
  have nd := sc_l_next.nd
  have hscu : ∀ o, SqL K (upd H sa o) sc (ns.map V.int) := fun o => sqU hsc nss
  have hdv : 0 ≤ (c + 1) / 12 := Int.ediv_nonneg (by omega) (by omega)
  have hmo : 0 ≤ (c + 1) % 12 ∧ (c + 1) % 12 < 12 := ⟨Int.emod_nonneg _ (by omega), Int.emod_lt_of_pos _ (by omega)⟩
  refine ⟨_, (pss_cons (ps_asg (pe_op op_add (pe_ix ix_list (pv 0) pe_int (fun _ _ => rfl)) pe_int) (pg_sub (pv 0) pe_int set_list))
      (pss_cons (ps_set (i := 2) nd rfl (Or.inl rfl) (pe_op op_fdiv (pe_ix ix_list (pv 0) pe_int (fun _ _ => rfl)) pe_int))
      (pss_cons (ps_set (i := 3) nd rfl (Or.inl rfl) (pe_op op_add (C8.pe_c c_l_cell_at hr (by first | decide | omega) (by rfl) (pa_cons (pe_ix ix_list (pv 0) pe_int (fun _ _ => rfl)) (pa_cons (pe_op op_add (pe_ix ix_list (pv 0) pe_int (fun _ _ => rfl)) (pv 2)) pa_nil))) (pe_op op_mul pe_int (pv 2))))
      (pss_one (ps_ret (C8.pe_c c_l_number hr (by first | decide | omega) (by rfl) (pa_cons (pv 3) (pa_cons (pe_op op_add (pe_op op_mod (pe_ix ix_list (pv 0) pe_int (fun _ _ => rfl)) pe_int) pe_int) (pa_cons (pv 1) pa_nil))))))))), ?_⟩
  walk_at "rd"
  rename_i r0 hr0 r H' hr1 hr2 e1
  have hst : upd H sa (.lst [.ref sc, .int b0, .int (c + 1)]) sa = some (.lst [.ref sc, .int b0, .int (c + 1)]) := upd_same
  have e1 : Ex TT (upd H sa (.lst [.ref sc, .int b0, .int (c + 1)])) H' := e1
  have e2 := e1.mask hst rfl
  rw [ms_upd] at e2
  exact k _ _ hr1 hr2 e2 ⟨c + 1, by omega, e1.at hst⟩
def sp_l_pick (K : PySem.W.Frag) : Sp := fun vs H Q _ => ∃ sa sc ns b0 p xs, vs = [.ref sa, .ref p] ∧ StAt H sa sc b0 ∧ 0 ≤ b0 ∧ SqL K H sc ((ns : List Int).map V.int) ∧ ns.length ≤ 100 ∧ sc ≠ sa ∧ H p = some (.lst xs) ∧ 0 < xs.length ∧ xs.length ≤ 1000 ∧ p ≠ sa ∧ ∀ x H', x ∈ xs → Ex TT (ms sa H) (ms sa H') → StAt H' sa sc b0 → Q x H'
theorem cal_l_pick (T : Tx K mg C) (D : DefB K mg "_law_pick" s_l_pick ["_law_state", "_law_things"]) (c_l_next : C8.Cal P w K mg base 3 "_law_next" (sp_l_next TT K) []) : C8.Cal P w K mg base 4 "_law_pick" (sp_l_pick TT K) [] := by
  refine cal_of D sc_l_pick (fun vs H Q E h => by obtain ⟨_, _, _, _, _, _, rfl, _⟩ := h; rfl) (fun fa cdv A outer s H vs Q E hr h => ?_)
  obtain ⟨sa, sc, ns, b0, p, xs, rfl, hst, hb0, hsc, hln, hss, hp, hx0, hx1, hps, k⟩ := h
  have nd := sc_l_pick.nd
  have hsq : SqL K H p xs ∨ SqT K H p xs := .inl (SqL.of hp)
  have hpos : (0 : Int) < (xs.length : Int) := by omega
  refine ⟨_, (pss_one (ps_ret (pe_ix ix_list (pv 1) (C8.pe_c c_l_next hr (by first | decide | omega) (by rfl) (pa_cons (pv 0) (pa_cons (pe_callB call_len_seq (by rfl) T.n_len (by decide +kernel) (pa_cons (pv 1) pa_nil)) pa_nil))) (fun _ _ => rfl)))), ?_⟩
  walk_at "rd"
  rename_i r H' hr0 hr1 e1 hst'
  have hri : r.toNat < xs.length := by omega
  have hg : xs[r.toNat]? = some (xs.getD r.toNat .non) := by rw [List.getD_eq_getElem?_getD, List.getElem?_eq_getElem hri]; rfl
  have hat : atI xs r = some (xs.getD r.toNat .non) := by
    have := atI_nat hg
    rwa [Int.toNat_of_nonneg hr0] at this
  have hp' : H' p = some (.lst xs) := ms_at (e1.at (at_ms hp hps)) (fun z => nomatch z)
  exact ⟨SqL.of hp', hat, k _ H' (List.mem_of_getElem? hg) e1 hst'⟩
end
end Rf
end

set_option Elab.async false
set_option linter.all false
set_option maxRecDepth 100000
set_option maxHeartbeats 4000000
set_option pp.maxSteps 1500
section
open PySem PySem.Spec PyProof.Rows L2 Rf
local macro_rules | `(tactic| walk_at "up") => `(tactic| first | assumption | exact Ex.refl _ | exact upd_same | (apply upd_at; (focus assumption); walk_at "up") | (apply upd_at'; (focus assumption); walk_at "up") | (apply Ex.mutL; (focus (walk_at "up")); (focus (walk_at "up")); walk_at "up") | (apply Ex.mutD; (focus (walk_at "up")); (focus (walk_at "up")); walk_at "up") | (apply Ex.free'; (focus assumption); walk_at "up") | (apply Ex.atT; (focus assumption); walk_at "up") | (apply Ex.atL; (focus assumption); walk_at "up") | (apply Ex.atD; (focus assumption); walk_at "up") | (apply Ex.atI; (focus assumption); walk_at "up") | (apply Ex.atF; (focus assumption); walk_at "up") | (apply Ex.then'; (focus assumption); walk_at "up") | (apply NetAt.ex; (focus assumption); walk_at "up") | (apply PartsAt.ex; (focus assumption); walk_at "up") | (apply PlanAt.ex; (focus assumption); walk_at "up") | (apply QrsAt.ex; (focus assumption); walk_at "up") | (apply SrcD.ex; (focus assumption); walk_at "up") | (apply VwD.ex; (focus assumption); walk_at "up") | (apply SeqIs.ex; (focus assumption); walk_at "up") | (apply NetAt.ex'; (focus assumption); walk_at "up") | (apply PartsAt.ex'; (focus assumption); walk_at "up") | (apply PlanAt.ex'; (focus assumption); walk_at "up") | (apply QrsAt.ex'; (focus assumption); walk_at "up") | (apply SrcD.ex'; (focus assumption); walk_at "up") | (apply VwD.ex'; (focus assumption); walk_at "up") | (apply SeqIs.ex'; (focus assumption); walk_at "up") | (apply Ex.atT'; (focus assumption); walk_at "up") | (apply Ex.atL'; (focus assumption); walk_at "up") | (apply Ex.atD'; (focus assumption); walk_at "up") | (apply Ex.atI'; (focus assumption); walk_at "up") | (with_reducible apply FrmAt.ex'; (focus assumption); walk_at "up") | (with_reducible apply VwAt.ex'; (focus assumption); walk_at "up") | (with_reducible apply RowAt.ex'; (focus assumption); walk_at "up") | (with_reducible apply SrcAt.ex'; (focus assumption); walk_at "up") | (with_reducible apply QryAt.ex'; (focus assumption); walk_at "up") | (with_reducible apply Rows.ex'; (focus assumption); walk_at "up") | (with_reducible apply StAt.exE; (focus assumption); walk_at "up") | (with_reducible apply sqU; (focus assumption); assumption) | (with_reducible apply sqE; (focus assumption); walk_at "up") | (with_reducible apply sqM; (focus assumption); (focus (walk_at "ne")); walk_at "up") | (with_reducible apply Ex.tabs'; (focus assumption); walk_at "up") | (with_reducible apply Ex.thenM; (focus assumption); (focus (walk_at "up")); walk_at "up") | (with_reducible apply Ex.thenMM; (focus assumption); walk_at "up") | (with_reducible apply atML; (focus assumption); (focus (walk_at "ne")); walk_at "up") | (with_reducible apply atMD; (focus assumption); (focus (walk_at "ne")); walk_at "up") | (with_reducible apply atMT; (focus assumption); (focus (walk_at "ne")); walk_at "up"))
local macro_rules | `(tactic| walk_at "ne") => `(tactic| first | assumption | (apply ne_st; (focus assumption); (walk_at "up")))
local macro_rules | `(tactic| walk_at "sv") => `(tactic| first | rfl | assumption | exact Ex.refl _ | exact ClsV.ty _ | (apply TyX.base; first | exact TyOf.int _ | exact TyOf.str _ | exact TyOf.bl _ | (apply TyOf.tup; walk_at "up") | (apply TyOf.lst; walk_at "up") | (apply TyOf.dK; walk_at "up")) | exact kit_ty (by decide +kernel) | (apply Rd.of; walk_at "up") | (apply DGet_some; (focus (walk_at "up")); assumption) | (apply DGet_f; (focus (walk_at "up")); assumption) | (apply DGet_s; walk_at "up") | (apply DPut_s; (focus (walk_at "up")); omega) | (apply sz5; simp only [List.length_map, List.length_append, List.length_cons, List.length_nil]; omega) | (apply sz4; simp only [List.length_map, List.length_append, List.length_cons, List.length_nil]; omega) | (apply SqL.of; walk_at "up") | (apply SqT.of; walk_at "up") | (apply Or.inl; apply SqL.of; walk_at "up") | (apply Or.inr; apply SqT.of; walk_at "up") | (apply Exists.intro; first | (apply SqL.of; walk_at "up") | (apply SqT.of; walk_at "up")) | exact flatStrs _ | (apply dp_nil; walk_at "up") | (apply dp_strs; walk_at "up") | (apply dp_ints; walk_at "up") | (apply dp_row; walk_at "up") | (apply dp_rowL; walk_at "up") | (apply dp_rows; (focus (walk_at "up")); walk_at "up") | exact shaped_nil | exact shaped_ints | (apply shaped_strs; assumption) | (apply shaped_rows; assumption) | (apply shaped_row; assumption) | (with_reducible apply RowAt.mk; walk_at "up") | (apply tyL; walk_at "up") | (apply tyD; walk_at "up") | (with_reducible apply cmul_r; constructor <;> omega) | (with_reducible apply cmul_l; constructor <;> omega) | (with_reducible apply cdiv_i; constructor <;> omega) | walk_at "up" | (with_reducible apply ne_st; (focus assumption); walk_at "up") | omega | (dsimp only; omega) | decide | (simp only [List.length_map, List.length_append, List.length_cons, List.length_nil]; omega))
local macro_rules | `(tactic| walk_at "cn") => `(tactic| first | assumption | omega | (dsimp only; omega) | (simp only [List.length_map, List.length_append, List.length_cons, List.length_nil, List.length_reverse]; omega) | decide)
local macro_rules | `(tactic| walk_at "rd") => `(tactic| first
  | (with_reducible show LcGo _ _ _ _ _ _ _ _)
  | (with_reducible show DcGo _ _ _ _ _ _ _ _ _)
  | (with_reducible show ForGo _ _ _ _ _ _)
  | (refine allocI (fun p hp => ?_); generalize hh : upd _ _ _ = H2; have e := exNew (T := ‹Tb›) hh hp; have h := updAt hh; clear hh; walk_at "rd")
  | (apply And.intro; (focus (walk_at "sv")); walk_at "rd")
  | (apply Exists.intro; walk_at "rd")
  | (refine iteY ?_ ?_; (focus (walk_at "cn")); walk_at "rd")
  | (refine iteN ?_ ?_; (focus (walk_at "cn")); walk_at "rd")
  | (refine iteY' ?_ ?_; (focus (walk_at "cn")); walk_at "rd")
  | (refine iteN' ?_ ?_; (focus (walk_at "cn")); walk_at "rd")
  | (refine iteBt ?_ ?_; (focus (first | assumption | decide +kernel)); walk_at "rd")
  | (refine iteBf ?_ ?_; (focus (first | assumption | decide +kernel)); walk_at "rd")
  | (intro _; walk_at "rd") | skip)
namespace Rf
section
variable {P : Program} {w : World} {K : PySem.W.Frag} {mg : Str → Option Value} {base : Heap} {C : Addr} (TT : Tb)
def sp_l_plan (K : PySem.W.Frag) : Sp := fun vs H Q _ => ∃ sa sc ns b0 v N h lk, vs = [.ref sa, v, .int h, .int lk] ∧ StAt H sa sc b0 ∧ 0 ≤ b0 ∧ SqL K H sc ((ns : List Int).map V.int) ∧ ns.length ≤ 100 ∧ sc ≠ sa ∧ PartsAt H v N ∧ NetOk N ∧ 1 ≤ h ∧ h ≤ 12 ∧ 0 < lk ∧
  ∀ d ys pl H', Ex TT (ms sa H) (ms sa H') → StAt H' sa sc b0 → H d = none → H' d = some (.lst ys) → Rows H' ys pl → PlanOk N h pl → Q (.ref d) H'
/-- a plan under way: before tick t, and at t before the i-th name -/
structure Under (N : Net) (t : Int) (i : Nat) (pl : Plan) : Prop where
  len : (pl.length : Int) ≤ 5 * (t - 1) + i
  el : ∀ r ∈ pl, 1 ≤ r.1 ∧ r.1 ≤ t ∧ r.2 ∈ N.names
  lt : ∀ r ∈ pl, r.1 < t ∨ (r.1 = t ∧ N.idx r.2 < i)
  up : pl.Pairwise (lexR N)
theorem Under.add {N : Net} {t : Int} {i : Nat} {pl : Plan} {n : Str} (u : Under N t i pl) (ht : 1 ≤ t) (hn : n ∈ N.names) (hi : N.idx n = i) : Under N t (i + 1) (pl ++ [(t, n)]) := by
  refine ⟨by rw [List.length_append, List.length_singleton]; have := u.len; omega, fun r hr => ?_, fun r hr => ?_, ?_⟩
  · rcases List.mem_append.mp hr with hr | hr
    · exact u.el r hr
    · simp at hr
      subst hr
      exact ⟨ht, Int.le_refl _, hn⟩
  · rcases List.mem_append.mp hr with hr | hr
    · rcases u.lt r hr with h | ⟨h1, h2⟩
      · exact .inl h
      · exact .inr ⟨h1, by omega⟩
    · simp at hr
      subst hr
      exact .inr ⟨rfl, by simp only; omega⟩
  · rw [List.pairwise_append]
    refine ⟨u.up, List.pairwise_singleton _ _, fun r hr x hx => ?_⟩
    simp at hx
    subst hx
    rcases u.lt r hr with h | ⟨h1, h2⟩
    · exact .inl h
    · exact .inr ⟨h1, by simp only; omega⟩
theorem Under.skip {N : Net} {t : Int} {i : Nat} {pl : Plan} (u : Under N t i pl) : Under N t (i + 1) pl := ⟨by have := u.len; omega, u.el, fun r hr => (u.lt r hr).imp id fun h => ⟨h.1, by omega⟩, u.up⟩
theorem Under.next {N : Net} {t : Int} {i : Nat} {pl : Plan} (u : Under N t i pl) (hi : i ≤ 5) : Under N (t + 1) 0 pl := ⟨by have := u.len; omega, fun r hr => ⟨(u.el r hr).1, by have := (u.el r hr).2.1; omega, (u.el r hr).2.2⟩, fun r hr => .inl (by have := (u.el r hr).2.1; omega), u.up⟩
theorem cal_l_plan (T : Tx K mg C) (D : DefB K mg "_law_plan" s_l_plan ["_law_state", "_law_parts", "_law_horizon", "_law_luck"]) (c_l_next : C8.Cal P w K mg base 3 "_law_next" (sp_l_next TT K) []) : C8.Cal P w K mg base 4 "_law_plan" (sp_l_plan TT K) [] := by
  refine cal_of D sc_l_plan (fun vs H Q E h => by obtain ⟨_, _, _, _, _, _, _, _, rfl, _⟩ := h; rfl) (fun fa cdv A outer s H vs Q E hr h => ?_)
  obtain ⟨sa, sc, ns, b0, v, N, h, lk, rfl, hst, hb0, hsc, hln, hss, hP, ok, h1, h12, hlk, k⟩ := h
  have nd := sc_l_plan.nd
  have ln := ok.len
  have hr2 : -2 ^ 62 ≤ (1 : Int) ∧ (1 : Int) < 2 ^ 62 ∧ -2 ^ 62 ≤ h + 1 ∧ h + 1 < 2 ^ 62 := ⟨by omega, by omega, by omega, by omega⟩
  obtain ⟨p, d1, d2, rfl, hp, ⟨k1, e1, g1⟩, ⟨k2, e2, g2⟩⟩ := id hP
  refine ⟨_, (pss_cons (ps_set (i := 4) nd rfl (Or.inl rfl) (pe_lst pa_nil))
      (pss_cons (forX (ps_for PassesOwn.never rfl (pi_range2 (by rfl) T.n_range (pa_cons pe_int (pa_cons (pe_op op_add (pv 2) pe_int) pa_nil))) (pg_name (i := 5) nd rfl (Or.inl rfl) (by first | exact Or.inr rfl | exact Or.inl rfl))
      (pss_one (forX (ps_for PassesOwn.never rfl (pi_list (pe_op op_cat (pe_callTy (call_listD rfl) (by rfl) T.n_list (by decide +kernel) (pa_cons (pe_ix ix_tup (pv 1) pe_int (fun _ _ => rfl)) pa_nil)) (pe_callTy (call_listD rfl) (by rfl) T.n_list (by decide +kernel) (pa_cons (pe_ix ix_tup (pv 1) pe_int (fun _ _ => rfl)) pa_nil)))) (pg_name (i := 6) nd rfl (Or.inl rfl) (by first | exact Or.inr rfl | exact Or.inl rfl))
      (pss_one (ps_if (pt_cmpR op_eq (C8.pe_c c_l_next hr (by first | decide | omega) (by rfl) (pa_cons (pv 0) (pa_cons (pv 3) pa_nil))) pe_int (nomark _)) (pss_one (ps_expr (pe_bm PySem.F.plainAttrs_list PySem.F.slot_list_append PySem.F.type_list_append mt_append (pv 4) (pa_cons (pe_tup (pa_cons (pv 5) (pa_cons (pv 6) pa_nil))) pa_nil)))) pss_nil)))))))
      (pss_one (ps_ret (pv 4))))), ?_⟩
  walk_at "rd"
  rename_i fd hfd H1 he1 hfd1
  have fne : fd ≠ sa := ne_st hfd hst
  have hst1 : StAt H1 sa sc b0 := by walk_at "up"
  have e01 : Ex TT (ms sa H) (ms sa H1) := by
    obtain ⟨c, _, z⟩ := hst
    exact he1.mask z rfl
  have un0 : Under N ((0 : Nat) + 1 : Int) 0 [] := by
    refine ⟨?_, ?_, ?_, .nil⟩
    · simp
    · intro r hr
      cases hr
    · intro r hr
      cases hr
  refine for_goB walk_range (fun i σ Hc => ∃ u5 u6 ys pl, σ = [some (.ref sa), some (.ref p), some (.int h), some (.int lk), some (.ref fd), u5, u6] ∧ Ex TT (ms sa H) (ms sa Hc) ∧ StAt Hc sa sc b0 ∧ Hc fd = some (.lst ys) ∧ Rows Hc ys pl ∧ Under N (i + 1 : Int) 0 pl)
    ⟨none, none, [], [], rfl, e01, hst1, hfd1, .nil, un0⟩ (fun _ _ _ _ _ => trivial) ?_ ?_
  · intro i y σ Hc Hc' hi ⟨u5, u6, ys, pl, es, ec, hstc, hfdc, hys, hun⟩ yy
    subst es
    obtain ⟨rfl, hy⟩ := yy
    have hy : y = V.int (1 + (i : Nat)) := hy
    subst hy
    have hPc : PartsAt Hc' (.ref p) N := hP.exM hst ec
    obtain ⟨p', d1', d2', ep, hpc, ⟨k1', e1', g1'⟩, ⟨k2', e2', g2'⟩⟩ := id hPc
    cases ep
    have lk1 := g1'.len
    have lk2 := g2'.len
    have ls := ok.s5
    walk_at "rd"
    rename_i l1 hl1 H2 he2 hl1' l2 hl2 H3 he3 hl2' la hla H4 he4 hla'
    have eN : k1'.map (fun kv => kV kv.1) ++ k2'.map (fun kv => kV kv.1) = N.names.map V.str := by
      rw [g1'.keys, g2'.keys, ← List.map_append]
      rfl
    rw [eN] at hla'
    have hst4 : StAt H4 sa sc b0 := by walk_at "up"
    have e04 : Ex TT (ms sa H) (ms sa H4) := by walk_at "up"
    have hfd4 : H4 fd = some (.lst ys) := by walk_at "up"
    have hys4 : Rows H4 ys pl := by walk_at "up"
    have hla3 : H3 la = none := hla
    have lne : la ≠ sa := ne_st hla (by walk_at "up")
    have lnf : fd ≠ la := ne_of_at (show H3 fd = some (.lst ys) by walk_at "up") hla
    have hL : (N.names.map V.str).length = N.names.length := List.length_map _
    refine for_goB (walk_list (K := K) (a := la) (xs := N.names.map V.str)) (fun j σ Hx => ∃ u6 ys pl, σ = [some (.ref sa), some (.ref p), some (.int h), some (.int lk), some (.ref fd), some (.int (1 + (i : Nat))), u6] ∧ Ex TT (ms sa H) (ms sa Hx) ∧ StAt Hx sa sc b0 ∧ Hx la = some (.lst (N.names.map V.str)) ∧ Hx fd = some (.lst ys) ∧ Rows Hx ys pl ∧ Under N (i + 1 : Int) j pl)
      ⟨u6, ys, pl, rfl, e04, hst4, hla', hfd4, hys4, hun⟩ (fun j σ Hx hj ⟨_, _, _, _, _, _, hl, _⟩ => SqL.of hl) ?_ ?_
    · intro j y σ Hx Hx' hj ⟨u6, ys, pl, es', ex, hstx, hlx, hfx, hyx, hux⟩ yy
      subst es'
      obtain ⟨rfl, hy⟩ := yy
      rw [hL] at hj
      obtain ⟨n, hn⟩ : ∃ b, N.names[j]? = some b := ⟨N.names[j], List.getElem?_eq_getElem _⟩
      have hnm := List.mem_of_getElem? hn
      rw [List.getElem?_map, hn] at hy
      cases hy
      have hidx : N.idx n = j := by
        obtain ⟨w1, w2⟩ := List.getElem?_eq_some_iff.mp hn
        rw [← w2]
        exact List.Nodup.idxOf_getElem ok.nodup j w1
      have hscx : SqL K Hx' sc (ns.map V.int) := sqM hsc hss ex
      have lys := Paired.length hyx
      have lun := hux.len
      have lys2 : ys.length < sizeLine := sz4 (by omega)
      walk_at "rd"
      rename_i r H5 hr0 hr1 he5 hst5
      have hfd5 : H5 fd = some (.lst ys) := by walk_at "up"
      have hla5 : H5 la = some (.lst (N.names.map V.str)) := by walk_at "up"
      have hys5 : Rows H5 ys pl := hyx.tu (tuM hstx he5)
      refine ite2 (fun hc => ?_) (fun hc => ?_)
      · walk_at "rd"
        rename_i q6 hq6 H6 he6 hq6'
        have hfd6 : H6 fd = some (.lst ys) := by walk_at "up"
        have e06 : Ex TT (ms sa H) (ms sa H6) := by walk_at "up"
        have hst6 : StAt H6 sa sc b0 := by walk_at "up"
        have hrow : RowAt H6 (V.ref q6) ((i : Int) + 1, n) := ⟨q6, rfl, by rw [hq6', Int.add_comm]⟩
        refine ⟨⟨_, ys ++ [V.ref q6], pl ++ [((i : Int) + 1, n)], rfl, mut_ms e06 hfd fne hfd6, hst6.upd' fne, ?_, upd_same, ?_, hux.add (by omega) hnm hidx⟩⟩
        · rw [upd_ne (Ne.symm lnf)]
          walk_at "up"
        · have := rows_snoc (show Rows H6 ys pl by walk_at "up") hrow
          exact this.tu (Tu.set hfd6)
      · walk_at "rd"
        exact ⟨⟨_, ys, pl, rfl, by walk_at "up", hst5, hla5, hfd5, hys5, hux.skip⟩⟩
    · rintro σ Hx ⟨u6, ys, pl, rfl, ex, hstx, hlx, hfx, hyx, hux⟩
      rw [hL] at hux
      have := hux.next (by omega)
      refine ⟨⟨_, _, ys, pl, rfl, ex, hstx, hfx, hyx, ?_⟩⟩
      rw [show ((i + 1 : Nat) : Int) = (i : Int) + 1 by omega]
      exact this
  · rintro σ Hc ⟨u5, u6, ys, pl, rfl, ec, hstc, hfdc, hys, hun⟩
    walk_at "rd"
    have e1' : (((h + 1 - 1).toNat : Nat) : Int) + 1 = h + 1 := by omega
    rw [e1'] at hun
    have hl := hun.len
    exact k _ ys pl _ ec hstc hfd hfdc hys ⟨by omega, fun r hr => ⟨(hun.el r hr).1, by rcases hun.lt r hr with z | ⟨_, z⟩ <;> omega, (hun.el r hr).2.2⟩, hun.up⟩
end
end Rf
end

set_option Elab.async false
set_option linter.all false
set_option maxRecDepth 100000
set_option maxHeartbeats 4000000
set_option pp.maxSteps 1500
section
open PySem PySem.Spec PyProof.Rows L2 Rf
local macro_rules | `(tactic| walk_at "up") => `(tactic| first | assumption | exact Ex.refl _ | exact upd_same | (apply upd_at; (focus assumption); walk_at "up") | (apply upd_at'; (focus assumption); walk_at "up") | (apply Ex.mutL; (focus (walk_at "up")); (focus (walk_at "up")); walk_at "up") | (apply Ex.mutD; (focus (walk_at "up")); (focus (walk_at "up")); walk_at "up") | (apply Ex.free'; (focus assumption); walk_at "up") | (apply Ex.atT; (focus assumption); walk_at "up") | (apply Ex.atL; (focus assumption); walk_at "up") | (apply Ex.atD; (focus assumption); walk_at "up") | (apply Ex.atI; (focus assumption); walk_at "up") | (apply Ex.atF; (focus assumption); walk_at "up") | (apply Ex.then'; (focus assumption); walk_at "up") | (apply NetAt.ex; (focus assumption); walk_at "up") | (apply PartsAt.ex; (focus assumption); walk_at "up") | (apply PlanAt.ex; (focus assumption); walk_at "up") | (apply QrsAt.ex; (focus assumption); walk_at "up") | (apply SrcD.ex; (focus assumption); walk_at "up") | (apply VwD.ex; (focus assumption); walk_at "up") | (apply SeqIs.ex; (focus assumption); walk_at "up") | (apply NetAt.ex'; (focus assumption); walk_at "up") | (apply PartsAt.ex'; (focus assumption); walk_at "up") | (apply PlanAt.ex'; (focus assumption); walk_at "up") | (apply QrsAt.ex'; (focus assumption); walk_at "up") | (apply SrcD.ex'; (focus assumption); walk_at "up") | (apply VwD.ex'; (focus assumption); walk_at "up") | (apply SeqIs.ex'; (focus assumption); walk_at "up") | (apply Ex.atT'; (focus assumption); walk_at "up") | (apply Ex.atL'; (focus assumption); walk_at "up") | (apply Ex.atD'; (focus assumption); walk_at "up") | (apply Ex.atI'; (focus assumption); walk_at "up") | (with_reducible apply FrmAt.ex'; (focus assumption); walk_at "up") | (with_reducible apply VwAt.ex'; (focus assumption); walk_at "up") | (with_reducible apply RowAt.ex'; (focus assumption); walk_at "up") | (with_reducible apply SrcAt.ex'; (focus assumption); walk_at "up") | (with_reducible apply QryAt.ex'; (focus assumption); walk_at "up") | (with_reducible apply Rows.ex'; (focus assumption); walk_at "up") | (with_reducible apply StAt.exE; (focus assumption); walk_at "up") | (with_reducible apply sqU; (focus assumption); assumption) | (with_reducible apply sqE; (focus assumption); walk_at "up") | (with_reducible apply sqM; (focus assumption); (focus (walk_at "ne")); walk_at "up") | (with_reducible apply Ex.tabs'; (focus assumption); walk_at "up") | (with_reducible apply Ex.thenM; (focus assumption); (focus (walk_at "up")); walk_at "up") | (with_reducible apply Ex.thenMM; (focus assumption); walk_at "up") | (with_reducible apply atML; (focus assumption); (focus (walk_at "ne")); walk_at "up") | (with_reducible apply atMD; (focus assumption); (focus (walk_at "ne")); walk_at "up") | (with_reducible apply atMT; (focus assumption); (focus (walk_at "ne")); walk_at "up"))
local macro_rules | `(tactic| walk_at "ne") => `(tactic| first | assumption | (apply ne_st; (focus assumption); (walk_at "up")))
local macro_rules | `(tactic| walk_at "sv") => `(tactic| first | rfl | assumption | exact Ex.refl _ | exact ClsV.ty _ | (apply TyX.base; first | exact TyOf.int _ | exact TyOf.str _ | exact TyOf.bl _ | (apply TyOf.tup; walk_at "up") | (apply TyOf.lst; walk_at "up") | (apply TyOf.dK; walk_at "up")) | exact kit_ty (by decide +kernel) | (apply Rd.of; walk_at "up") | (apply DGet_some; (focus (walk_at "up")); assumption) | (apply DGet_f; (focus (walk_at "up")); assumption) | (apply DGet_s; walk_at "up") | (apply DPut_s; (focus (walk_at "up")); omega) | (apply sz5; simp only [List.length_map, List.length_append, List.length_cons, List.length_nil]; omega) | (apply sz4; simp only [List.length_map, List.length_append, List.length_cons, List.length_nil]; omega) | (apply SqL.of; walk_at "up") | (apply SqT.of; walk_at "up") | (apply Or.inl; apply SqL.of; walk_at "up") | (apply Or.inr; apply SqT.of; walk_at "up") | (apply Exists.intro; first | (apply SqL.of; walk_at "up") | (apply SqT.of; walk_at "up")) | exact flatStrs _ | (apply dp_nil; walk_at "up") | (apply dp_strs; walk_at "up") | (apply dp_ints; walk_at "up") | (apply dp_row; walk_at "up") | (apply dp_rowL; walk_at "up") | (apply dp_rows; (focus (walk_at "up")); walk_at "up") | exact shaped_nil | exact shaped_ints | (apply shaped_strs; assumption) | (apply shaped_rows; assumption) | (apply shaped_row; assumption) | (with_reducible apply RowAt.mk; walk_at "up") | (apply tyL; walk_at "up") | (apply tyD; walk_at "up") | (with_reducible apply cmul_r; constructor <;> omega) | (with_reducible apply cmul_l; constructor <;> omega) | (with_reducible apply cdiv_i; constructor <;> omega) | walk_at "up" | (with_reducible apply ne_st; (focus assumption); walk_at "up") | omega | (dsimp only; omega) | decide | (simp only [List.length_map, List.length_append, List.length_cons, List.length_nil]; omega))
local macro_rules | `(tactic| walk_at "cn") => `(tactic| first | assumption | omega | (dsimp only; omega) | (simp only [List.length_map, List.length_append, List.length_cons, List.length_nil, List.length_reverse]; omega) | decide)
local macro_rules | `(tactic| walk_at "rd") => `(tactic| first
  | (with_reducible show LcGo _ _ _ _ _ _ _ _)
  | (with_reducible show DcGo _ _ _ _ _ _ _ _ _)
  | (with_reducible show ForGo _ _ _ _ _ _)
  | (refine allocI (fun p hp => ?_); generalize hh : upd _ _ _ = H2; have e := exNew (T := ‹Tb›) hh hp; have h := updAt hh; clear hh; walk_at "rd")
  | (apply And.intro; (focus (walk_at "sv")); walk_at "rd")
  | (apply Exists.intro; walk_at "rd")
  | (refine iteY ?_ ?_; (focus (walk_at "cn")); walk_at "rd")
  | (refine iteN ?_ ?_; (focus (walk_at "cn")); walk_at "rd")
  | (refine iteY' ?_ ?_; (focus (walk_at "cn")); walk_at "rd")
  | (refine iteN' ?_ ?_; (focus (walk_at "cn")); walk_at "rd")
  | (refine iteBt ?_ ?_; (focus (first | assumption | decide +kernel)); walk_at "rd")
  | (refine iteBf ?_ ?_; (focus (first | assumption | decide +kernel)); walk_at "rd")
  | (intro _; walk_at "rd") | skip)
namespace Rf
section
variable {P : Program} {w : World} {K : PySem.W.Frag} {mg : Str → Option Value} {base : Heap} {C : Addr} (TT : Tb)
def sp_l_query (K : PySem.W.Frag) : Sp := fun vs H Q _ => ∃ sa sc ns b0 v N h, vs = [.ref sa, v, .int h] ∧ StAt H sa sc b0 ∧ 0 ≤ b0 ∧ SqL K H sc ((ns : List Int).map V.int) ∧ ns.length ≤ 100 ∧ sc ≠ sa ∧ PartsAt H v N ∧ NetOk N ∧ 1 ≤ h ∧ h ≤ 12 ∧
  ∀ d q H', Ex TT (ms sa H) (ms sa H') → StAt H' sa sc b0 → QryAt H' (.ref d) q → 0 ≤ q.1 → q.1 ≤ h → q.2.1 ∈ N.names → 0 ≤ q.2.2 → q.2.2 ≤ 999 → Q (.ref d) H'
theorem cal_l_query (T : Tx K mg C) (D : DefB K mg "_law_query" s_l_query ["_law_state", "_law_parts", "_law_horizon"]) (c_l_next : C8.Cal P w K mg base 3 "_law_next" (sp_l_next TT K) []) (c_l_pick : C8.Cal P w K mg base 4 "_law_pick" (sp_l_pick TT K) []) : C8.Cal P w K mg base 5 "_law_query" (sp_l_query TT K) [] := by
  refine cal_of D sc_l_query (fun vs H Q E h => by obtain ⟨_, _, _, _, _, _, _, rfl, _⟩ := h; rfl) (fun fa cdv A outer s H vs Q E hr h => ?_)
  obtain ⟨sa, sc, ns, b0, v, N, h, rfl, hst, hb0, hsc, hln, hss, hP, ok, h1, h12, k⟩ := h
  have nd := sc_l_query.nd
  have ln := ok.len
  obtain ⟨p, d1, d2, rfl, hp, ⟨k1, e1, g1⟩, ⟨k2, e2, g2⟩⟩ := id hP
  have lk1 := g1.len
  have lk2 := g2.len
  have ls := ok.s5
  have l1 := ok.s1
  have hx0 : 0 < (k1.map (fun kv => kV kv.1) ++ k2.map (fun kv => kV kv.1) ++ k2.map (fun kv => kV kv.1)).length := by simp only [List.length_append, List.length_map]; omega
  have hx1 : (k1.map (fun kv => kV kv.1) ++ k2.map (fun kv => kV kv.1) ++ k2.map (fun kv => kV kv.1)).length ≤ 1000 := by simp only [List.length_append, List.length_map]; omega
  refine ⟨_, (pss_cons (ps_set (i := 3) nd rfl (Or.inl rfl) (C8.pe_c c_l_pick hr (by first | decide | omega) (by rfl) (pa_cons (pv 0) (pa_cons (pe_op op_cat (pe_op op_cat (pe_callTy (call_listD rfl) (by rfl) T.n_list (by decide +kernel) (pa_cons (pe_ix ix_tup (pv 1) pe_int (fun _ _ => rfl)) pa_nil)) (pe_callTy (call_listD rfl) (by rfl) T.n_list (by decide +kernel) (pa_cons (pe_ix ix_tup (pv 1) pe_int (fun _ _ => rfl)) pa_nil))) (pe_callTy (call_listD rfl) (by rfl) T.n_list (by decide +kernel) (pa_cons (pe_ix ix_tup (pv 1) pe_int (fun _ _ => rfl)) pa_nil))) pa_nil))))
      (pss_cons (ps_set (i := 4) nd rfl (Or.inl rfl) (C8.pe_c c_l_pick hr (by first | decide | omega) (by rfl) (pa_cons (pv 0) (pa_cons (pe_lst (pa_cons (pv 2) (pa_cons (C8.pe_c c_l_next hr (by first | decide | omega) (by rfl) (pa_cons (pv 0) (pa_cons (pe_op op_add (pv 2) pe_int) pa_nil))) pa_nil))) pa_nil))))
      (pss_one (ps_ret (pe_tup (pa_cons (pv 4) (pa_cons (pv 3) (pa_cons (C8.pe_c c_l_pick hr (by first | decide | omega) (by rfl) (pa_cons (pv 0) (pa_cons (pe_lst (pa_cons pe_int (pa_cons pe_int (pa_cons pe_int (pa_cons pe_int (pa_cons pe_int (pa_cons pe_int pa_nil))))))) pa_nil))) pa_nil)))))))), ?_⟩
  walk_at "rd"
  rename_i x H7 hx he7 hst7 r H8 hr0 hr1 he8 hst8 q8 hq8 H9 he9 hq8' x2 H10 hx2 he10 hst10 q10 hq10 H11 he11 hq10' x3 H12 hx3 he12 hst12 d hd H13 he13 hd13
  have hxn : ∃ n ∈ N.names, x = V.str n := by
    rw [g1.keys, g2.keys] at hx
    rcases List.mem_append.mp hx with hx | hx
    · rcases List.mem_append.mp hx with hx | hx
      · obtain ⟨n, hn, rfl⟩ := List.mem_map.mp hx
        exact ⟨n, List.mem_append_left _ hn, rfl⟩
      · obtain ⟨n, hn, rfl⟩ := List.mem_map.mp hx
        exact ⟨n, List.mem_append_right _ hn, rfl⟩
    · obtain ⟨n, hn, rfl⟩ := List.mem_map.mp hx
      exact ⟨n, List.mem_append_right _ hn, rfl⟩
  have hxt : ∃ t : Int, 0 ≤ t ∧ t ≤ h ∧ x2 = V.int t := by
    simp only [List.mem_cons, List.not_mem_nil, or_false] at hx2
    rcases hx2 with rfl | rfl
    · exact ⟨h, by omega, by omega, rfl⟩
    · exact ⟨r, hr0, by omega, rfl⟩
  have hxo : ∃ t : Int, 0 ≤ t ∧ t ≤ 999 ∧ x3 = V.int t := by
    simp only [List.mem_cons, List.not_mem_nil, or_false] at hx3
    rcases hx3 with rfl | rfl | rfl | rfl | rfl | rfl <;> exact ⟨_, by decide, by decide, rfl⟩
  obtain ⟨n, hn, rfl⟩ := hxn
  obtain ⟨t, t0, t1, rfl⟩ := hxt
  obtain ⟨o, o0, o1, rfl⟩ := hxo
  exact k d (t, n, o) H13 (by walk_at "up") (by walk_at "up") ⟨d, rfl, hd13⟩ t0 t1 hn o0 o1
end
end Rf
end

set_option Elab.async false
set_option linter.all false
set_option maxRecDepth 100000
set_option maxHeartbeats 4000000
set_option pp.maxSteps 1500
section
open PySem PySem.Spec PyProof.Rows L2 Rf
local macro_rules | `(tactic| walk_at "up") => `(tactic| first | assumption | exact Ex.refl _ | exact upd_same | (apply upd_at; (focus assumption); walk_at "up") | (apply upd_at'; (focus assumption); walk_at "up") | (apply Ex.mutL; (focus (walk_at "up")); (focus (walk_at "up")); walk_at "up") | (apply Ex.mutD; (focus (walk_at "up")); (focus (walk_at "up")); walk_at "up") | (apply Ex.free'; (focus assumption); walk_at "up") | (apply Ex.atT; (focus assumption); walk_at "up") | (apply Ex.atL; (focus assumption); walk_at "up") | (apply Ex.atD; (focus assumption); walk_at "up") | (apply Ex.atI; (focus assumption); walk_at "up") | (apply Ex.atF; (focus assumption); walk_at "up") | (apply Ex.then'; (focus assumption); walk_at "up") | (apply NetAt.ex; (focus assumption); walk_at "up") | (apply PartsAt.ex; (focus assumption); walk_at "up") | (apply PlanAt.ex; (focus assumption); walk_at "up") | (apply QrsAt.ex; (focus assumption); walk_at "up") | (apply SrcD.ex; (focus assumption); walk_at "up") | (apply VwD.ex; (focus assumption); walk_at "up") | (apply SeqIs.ex; (focus assumption); walk_at "up") | (apply NetAt.ex'; (focus assumption); walk_at "up") | (apply PartsAt.ex'; (focus assumption); walk_at "up") | (apply PlanAt.ex'; (focus assumption); walk_at "up") | (apply QrsAt.ex'; (focus assumption); walk_at "up") | (apply SrcD.ex'; (focus assumption); walk_at "up") | (apply VwD.ex'; (focus assumption); walk_at "up") | (apply SeqIs.ex'; (focus assumption); walk_at "up") | (apply Ex.atT'; (focus assumption); walk_at "up") | (apply Ex.atL'; (focus assumption); walk_at "up") | (apply Ex.atD'; (focus assumption); walk_at "up") | (apply Ex.atI'; (focus assumption); walk_at "up") | (with_reducible apply FrmAt.ex'; (focus assumption); walk_at "up") | (with_reducible apply VwAt.ex'; (focus assumption); walk_at "up") | (with_reducible apply RowAt.ex'; (focus assumption); walk_at "up") | (with_reducible apply SrcAt.ex'; (focus assumption); walk_at "up") | (with_reducible apply QryAt.ex'; (focus assumption); walk_at "up") | (with_reducible apply Rows.ex'; (focus assumption); walk_at "up") | (with_reducible apply StAt.exE; (focus assumption); walk_at "up") | (with_reducible apply sqU; (focus assumption); assumption) | (with_reducible apply sqE; (focus assumption); walk_at "up") | (with_reducible apply sqM; (focus assumption); (focus (walk_at "ne")); walk_at "up") | (with_reducible apply Ex.tabs'; (focus assumption); walk_at "up") | (with_reducible apply Ex.thenM; (focus assumption); (focus (walk_at "up")); walk_at "up") | (with_reducible apply Ex.thenMM; (focus assumption); walk_at "up") | (with_reducible apply atML; (focus assumption); (focus (walk_at "ne")); walk_at "up") | (with_reducible apply atMD; (focus assumption); (focus (walk_at "ne")); walk_at "up") | (with_reducible apply atMT; (focus assumption); (focus (walk_at "ne")); walk_at "up"))
local macro_rules | `(tactic| walk_at "ne") => `(tactic| first | assumption | (apply ne_st; (focus assumption); (walk_at "up")))
local macro_rules | `(tactic| walk_at "sv") => `(tactic| first | rfl | assumption | exact Ex.refl _ | exact ClsV.ty _ | (apply TyX.base; first | exact TyOf.int _ | exact TyOf.str _ | exact TyOf.bl _ | (apply TyOf.tup; walk_at "up") | (apply TyOf.lst; walk_at "up") | (apply TyOf.dK; walk_at "up")) | exact kit_ty (by decide +kernel) | (apply Rd.of; walk_at "up") | (apply DGet_some; (focus (walk_at "up")); assumption) | (apply DGet_f; (focus (walk_at "up")); assumption) | (apply DGet_s; walk_at "up") | (apply DPut_s; (focus (walk_at "up")); omega) | (apply sz5; simp only [List.length_map, List.length_append, List.length_cons, List.length_nil]; omega) | (apply sz4; simp only [List.length_map, List.length_append, List.length_cons, List.length_nil]; omega) | (apply SqL.of; walk_at "up") | (apply SqT.of; walk_at "up") | (apply Or.inl; apply SqL.of; walk_at "up") | (apply Or.inr; apply SqT.of; walk_at "up") | (apply Exists.intro; first | (apply SqL.of; walk_at "up") | (apply SqT.of; walk_at "up")) | exact flatStrs _ | (apply dp_nil; walk_at "up") | (apply dp_strs; walk_at "up") | (apply dp_ints; walk_at "up") | (apply dp_row; walk_at "up") | (apply dp_rowL; walk_at "up") | (apply dp_rows; (focus (walk_at "up")); walk_at "up") | exact shaped_nil | exact shaped_ints | (apply shaped_strs; assumption) | (apply shaped_rows; assumption) | (apply shaped_row; assumption) | (with_reducible apply RowAt.mk; walk_at "up") | (apply tyL; walk_at "up") | (apply tyD; walk_at "up") | (with_reducible apply cmul_r; constructor <;> omega) | (with_reducible apply cmul_l; constructor <;> omega) | (with_reducible apply cdiv_i; constructor <;> omega) | walk_at "up" | (with_reducible apply ne_st; (focus assumption); walk_at "up") | omega | (dsimp only; omega) | decide | (simp only [List.length_map, List.length_append, List.length_cons, List.length_nil]; omega))
local macro_rules | `(tactic| walk_at "cn") => `(tactic| first | assumption | omega | (dsimp only; omega) | (simp only [List.length_map, List.length_append, List.length_cons, List.length_nil, List.length_reverse]; omega) | decide)
local macro_rules | `(tactic| walk_at "rd") => `(tactic| first
  | (with_reducible show LcGo _ _ _ _ _ _ _ _)
  | (with_reducible show DcGo _ _ _ _ _ _ _ _ _)
  | (with_reducible show ForGo _ _ _ _ _ _)
  | (refine allocI (fun p hp => ?_); generalize hh : upd _ _ _ = H2; have e := exNew (T := ‹Tb›) hh hp; have h := updAt hh; clear hh; walk_at "rd")
  | (apply And.intro; (focus (walk_at "sv")); walk_at "rd")
  | (apply Exists.intro; walk_at "rd")
  | (refine iteY ?_ ?_; (focus (walk_at "cn")); walk_at "rd")
  | (refine iteN ?_ ?_; (focus (walk_at "cn")); walk_at "rd")
  | (refine iteY' ?_ ?_; (focus (walk_at "cn")); walk_at "rd")
  | (refine iteN' ?_ ?_; (focus (walk_at "cn")); walk_at "rd")
  | (refine iteBt ?_ ?_; (focus (first | assumption | decide +kernel)); walk_at "rd")
  | (refine iteBf ?_ ?_; (focus (first | assumption | decide +kernel)); walk_at "rd")
  | (intro _; walk_at "rd") | skip)
namespace Rf
section
/-- views one behind the other -/
theorem VwsOk.snoc : ∀ {known free : List Str} {l : List (Str × Frm × Int)} {v : Str × Frm × Int}, VwsOk known free l → VwOk (known ++ l.map (·.1)) (l.foldl freeBy free) v → VwsOk known free (l ++ [v])
  | known, free, [], v, _, h => by
    simp only [List.map_nil, List.append_nil, List.foldl_nil] at h
    exact ⟨h, trivial⟩
  | known, free, u :: r, v, ⟨h1, h2⟩, h => ⟨h1, VwsOk.snoc h2 (by simpa using h)⟩
theorem DctAt.snoc {β : Type} {R : V → β → Prop} {kvs : List (Key × V)} {l : List (Str × β)} {n : Str} {v : V} {b : β} (h : DctAt R kvs l) (hn : n ∉ l.map (·.1)) (r : R v b) : DctAt R (putK kvs (Sum.inr n) v) (l ++ [(n, b)]) := by
  rw [putK_new v (h.no (look_none.mpr hn))]
  exact Paired.appendP h (.cons ⟨rfl, r⟩ .nil)
variable {P : Program} {w : World} {K : PySem.W.Frag} {mg : Str → Option Value} {base : Heap} {C : Addr} (TT : Tb)
theorem good_of {x : Str} (h : x ∈ (["a", "b", "c", "v", "w"] : List Str)) : Good x := by
  have key : ∀ x ∈ (["a", "b", "c", "v", "w"] : List Str), (decide (1 ≤ x.length) && decide (x.length ≤ 8) && x.cps.toList.all (fun c => lettersS.cps.toList.contains c) && PyData.canLay0 (.str x)) = true := by decide +kernel
  have := key x h
  simp only [Bool.and_eq_true, decide_eq_true_eq, List.all_eq_true, List.contains_iff_mem] at this
  exact ⟨this.1.1.1, this.1.1.2, this.1.2, this.2⟩
theorem cut_from (l : List Str) {r : Int} (h0 : 0 ≤ r) (h1 : r ≤ l.length) : cutV (l.map V.str) (some r) none = (l.drop r.toNat).map V.str := by
  obtain ⟨k, rfl⟩ : ∃ k : Nat, r = k := ⟨r.toNat, by omega⟩
  unfold cutV
  rw [HT.sIx_nat, HT.sIx_none, List.length_map, Int.toNat_natCast, Nat.min_eq_left (by omega), List.map_drop]
  rw [List.take_of_length_le (Nat.le_of_eq (by rw [List.length_drop, List.length_map]))]
theorem cut_to (l : List Str) {r : Int} (h0 : 0 ≤ r) : cutV (l.map V.str) none (some r) = (l.take r.toNat).map V.str := by
  obtain ⟨k, rfl⟩ : ∃ k : Nat, r = k := ⟨r.toNat, by omega⟩
  unfold cutV
  rw [HT.sIx_nat, HT.sIx_none, List.length_map, Int.toNat_natCast, List.drop_zero, Nat.sub_zero, ← List.map_take]
  congr 1
  by_cases h : k ≤ l.length
  · rw [Nat.min_eq_left h]
  · rw [Nat.min_eq_right (by omega), List.take_of_length_le (Nat.le_refl _), List.take_of_length_le (by omega)]
def sp_l_network (K : PySem.W.Frag) : Sp := fun vs H Q _ => ∃ sa sc ns b0, vs = [.ref sa, .int 5] ∧ StAt H sa sc b0 ∧ 0 ≤ b0 ∧ SqL K H sc ((ns : List Int).map V.int) ∧ ns.length ≤ 100 ∧ sc ≠ sa ∧
  ∀ v N H', Ex TT (ms sa H) (ms sa H') → StAt H' sa sc b0 → PartsAt H' v N → NetOk N → Q v H'
theorem cal_l_network (T : Tx K mg C) (D : DefB K mg "_law_network" s_l_network ["_law_state", "_law_most"]) (c_l_next : C8.Cal P w K mg base 3 "_law_next" (sp_l_next TT K) []) (c_l_pick : C8.Cal P w K mg base 4 "_law_pick" (sp_l_pick TT K) []) : C8.Cal P w K mg base 5 "_law_network" (sp_l_network TT K) [] := by
  refine cal_of D sc_l_network (fun vs H Q E h => by obtain ⟨_, _, _, _, rfl, _⟩ := h; rfl) (fun fa cdv A outer s H vs Q E hr h => ?_)
  obtain ⟨sa, sc, ns, b0, rfl, hst, hb0, hsc, hln, hss, k⟩ := h
  have nd := sc_l_network.nd
  have hu := hu_of hr
  refine ⟨_, (pss_cons (ps_par (i := 2) (j := 3) rfl nd rfl rfl (by decide) rfl rfl (pa_cons pe_dnewK (pa_cons pe_dnewK pa_nil)) (by rfl))
      (pss_cons (forX (ps_for PassesOwn.never rfl (pi_list (pe_slice sl_list (pe_lst (pa_cons pe_str (pa_cons pe_str (pa_cons pe_str pa_nil)))) po_none (po_some (pe_op op_add pe_int (C8.pe_c c_l_next hr (by first | decide | omega) (by rfl) (pa_cons (pv 0) (pa_cons (pe_callB (call_min2 rfl) (by rfl) T.n_min (by decide +kernel) (pa_cons pe_int (pa_cons (pv 1) pa_nil))) pa_nil))))))) (pg_name (i := 4) nd rfl (Or.inl rfl) (by first | exact Or.inr rfl | exact Or.inl rfl))
      (pss_one (ps_dput hu (pv 2) (pv 4) (pe_tup (pa_cons (C8.pe_c c_l_pick hr (by first | decide | omega) (by rfl) (pa_cons (pv 0) (pa_cons (pe_lst (pa_cons pe_int (pa_cons pe_int (pa_cons pe_int (pa_cons pe_int (pa_cons pe_int (pa_cons pe_int pa_nil))))))) pa_nil))) (pa_cons (pe_op op_add pe_int (C8.pe_c c_l_next hr (by first | decide | omega) (by rfl) (pa_cons (pv 0) (pa_cons pe_int pa_nil)))) pa_nil))) rfl))))
      (pss_cons (ps_set (i := 5) nd rfl (Or.inl rfl) (pe_callTy (call_listD rfl) (by rfl) T.n_list (by decide +kernel) (pa_cons (pv 2) pa_nil)))
      (pss_cons (forX (ps_for PassesOwn.never rfl (pi_list (pe_slice sl_list (pe_lst (pa_cons pe_str (pa_cons pe_str pa_nil))) po_none (po_some (C8.pe_c c_l_next hr (by first | decide | omega) (by rfl) (pa_cons (pv 0) (pa_cons pe_int pa_nil)))))) (pg_name (i := 4) nd rfl (Or.inl rfl) (by first | exact Or.inr rfl | exact Or.inl rfl))
      (pss_one (ps_if (pt_cmpR op_lt (pe_op op_add (pe_callB call_lenD (by rfl) T.n_len (by decide +kernel) (pa_cons (pv 2) pa_nil)) (pe_callB call_lenD (by rfl) T.n_len (by decide +kernel) (pa_cons (pv 3) pa_nil))) (pv 1) (nomark _)) (pss_cons (ps_set (i := 6) nd rfl (Or.inr rfl) (pe_slice sl_list (pe_slice sl_list (pv 5) (po_some (C8.pe_c c_l_next hr (by first | decide | omega) (by rfl) (pa_cons (pv 0) (pa_cons (pe_callB call_len_seq (by rfl) T.n_len (by decide +kernel) (pa_cons (pv 5) pa_nil)) pa_nil)))) po_none) po_none (po_some (pe_op op_add pe_int (C8.pe_c c_l_next hr (by first | decide | omega) (by rfl) (pa_cons (pv 0) (pa_cons pe_int pa_nil)))))))
      (pss_cons (ps_set (i := 7) nd rfl (Or.inl rfl) (C8.pe_c c_l_pick hr (by first | decide | omega) (by rfl) (pa_cons (pv 0) (pa_cons (pe_lst (pa_cons pe_str (pa_cons pe_str (pa_cons pe_str (pa_cons pe_str pa_nil))))) pa_nil))))
      (pss_cons (ps_set (i := 8) nd rfl (Or.inl rfl) (pe_callTy call_tuple_of (by rfl) T.n_tuple (by decide +kernel) (pa_cons (pe_ifExp (pt_cmpR op_eq (C8.pe_c c_l_next hr (by first | decide | omega) (by rfl) (pa_cons (pv 0) (pa_cons pe_int pa_nil))) pe_int (nomark _)) (pe_revL (pv 6)) (pv 6)) pa_nil)))
      (pss_cons (ps_if (pt_cmpR op_eq (pv 7) pe_str (nomark _)) (pss_one (ps_set (i := 8) nd rfl (Or.inl rfl) (pe_callTy call_tuple_of (by rfl) T.n_tuple (by decide +kernel) (pa_cons (lcX (pe_lc (g := (gName 9)) rfl nd (pi_tup (pv 8)) (blkOk_by (own := [("_law_one", 9)]) (N := N_l_network) (sc := C8.fnScope s_l_network) (by decide +kernel)) (fun _ _ _ _ _ => (pg_name (i := 9) nd rfl (Or.inl rfl) (by first | exact Or.inr rfl | exact Or.inl rfl))) (fun _ _ _ _ _ => pts_nil) (fun _ _ _ _ _ => (pe_tup (pa_cons (C8.pe_c c_l_pick hr (by first | decide | omega) (by rfl) (pa_cons (pv 0) (pa_cons (pe_lst (pa_cons pe_int (pa_cons pe_int (pa_cons (pe_un un_neg pe_int) (pa_cons pe_int (pa_cons (pe_un un_neg pe_int) (pa_cons pe_int (pa_cons (pe_un un_neg pe_int) pa_nil)))))))) pa_nil))) (pa_cons (pv 9) pa_nil)))))) pa_nil)))) pss_nil)
      (pss_cons (ps_dput hu (pv 3) (pv 4) (pe_tup (pa_cons (pe_tup (pa_cons (pv 7) (pa_cons (pv 8) pa_nil))) (pa_cons (pe_op op_add pe_int (C8.pe_c c_l_next hr (by first | decide | omega) (by rfl) (pa_cons (pv 0) (pa_cons pe_int pa_nil)))) pa_nil))) rfl)
      (pss_one (ps_set (i := 5) nd rfl (Or.inl rfl) (pe_op op_cat (lcX (pe_lc (g := (gName 9)) rfl nd (pi_list (pv 5)) (blkOk_by (own := [("_law_one", 9)]) (N := N_l_network) (sc := C8.fnScope s_l_network) (by decide +kernel)) (fun _ _ _ _ _ => (pg_name (i := 9) nd rfl (Or.inl rfl) (by first | exact Or.inr rfl | exact Or.inl rfl))) (fun _ _ _ _ _ => pts_one (pt_cmpR (op_notIn_seqK (K := K)) (pv 9) (pv 6) rfl)) (fun _ _ _ _ _ => (pv 9)))) (pe_lst (pa_cons (pv 4) pa_nil)))))))))) pss_nil))))
      (pss_one (ps_ret (pe_tup (pa_cons (pv 2) (pa_cons (pv 3) pa_nil))))))))), ?_⟩
  walk_at "rd"
  rename_i d1 hd1 H1 he1 hd1' d2 hd2 H2 he2 hd2' q3 hq3 H3 he3 hq3' r H4 hr0 hr1 he4 hst4 la hla H5 he5 hla'
  have hnm : ∃ nm : List Str, cutV [V.str (Str.ofString "a"), V.str (Str.ofString "b"), V.str (Str.ofString "c")] none (some ((fun i j => i + j) 1 r)) = nm.map V.str ∧ nm.Nodup ∧ 1 ≤ nm.length ∧ nm.length ≤ 3 ∧ ∀ x ∈ nm, x ∈ (["a", "b", "c"] : List Str) := by
    have h3 : r < 3 := hr1
    have : r = 0 ∨ r = 1 ∨ r = 2 := by omega
    rcases this with rfl | rfl | rfl
    · exact ⟨["a"], rfl, by decide +kernel, by decide, by decide, by decide +kernel⟩
    · exact ⟨["a", "b"], rfl, by decide +kernel, by decide, by decide, by decide +kernel⟩
    · exact ⟨["a", "b", "c"], rfl, by decide +kernel, by decide, by decide, by decide +kernel⟩
  obtain ⟨nm, hcut, hnd, hn1, hn3, hnm⟩ := hnm
  have hla5 : H5 la = some (.lst (nm.map V.str)) := by rw [← hcut]; exact hla'
  have h1ne : d1 ≠ sa := ne_st hd1 hst
  have h2ne : d2 ≠ sa := ne_st hd2 (by walk_at "up")
  have e05 : Ex TT (ms sa H) (ms sa H5) := by walk_at "up"
  have hst5 : StAt H5 sa sc b0 := by walk_at "up"
  have hd15 : H5 d1 = some (.dK []) := by walk_at "up"
  have hd25 : H5 d2 = some (.dK []) := by walk_at "up"
  have hlane : la ≠ sa := ne_st hla hst4
  have n1l : d1 ≠ la := ne_of_at (show H4 d1 = some (.dK []) by walk_at "up") hla
  have n12 : d1 ≠ d2 := ne_of_at hd1' hd2
  have hd20 : H d2 = none := he1.al _ hd2
  have hL : (nm.map V.str).length = nm.length := List.length_map _
  refine for_goB (walk_list (K := K) (a := la) (xs := nm.map V.str)) (fun i σ Hx => ∃ u4 kvs src, σ = [some (.ref sa), some (.int 5), some (.ref d1), some (.ref d2), u4, none, none, none, none, none] ∧ Ex TT (ms sa H) (ms sa Hx) ∧ StAt Hx sa sc b0 ∧ Hx la = some (.lst (nm.map V.str)) ∧ Hx d2 = some (.dK []) ∧ Hx d1 = some (.dK kvs) ∧ DctAt (SrcAt Hx) kvs src ∧ src.map (·.1) = nm.take i ∧ ∀ s ∈ src, SrcOk s)
    ⟨none, [], [], rfl, e05, hst5, hla5, hd25, hd15, .nil, rfl, fun s hs => by cases hs⟩ (fun i σ Hx hi ⟨_, _, _, _, _, _, hl, _⟩ => SqL.of hl) ?_ ?_
  · intro i y σ Hx Hx' hi ⟨u4, kvs, src, es, ex, hstx, hlx, h2x, h1x, hdx, hmp, hok⟩ yy
    subst es
    obtain ⟨rfl, hy⟩ := yy
    rw [hL] at hi
    obtain ⟨n, hn⟩ : ∃ b, nm[i]? = some b := ⟨nm[i], List.getElem?_eq_getElem _⟩
    have hnn := List.mem_of_getElem? hn
    rw [List.getElem?_map, hn] at hy
    cases hy
    have hscx : SqL K Hx' sc (ns.map V.int) := sqM hsc hss ex
    have lkv := hdx.len
    have lkv2 : kvs.length ≤ 5 := by
      have := congrArg List.length hmp
      rw [List.length_map, List.length_take] at this
      omega
    walk_at "rd"
    rename_i q6 hq6 H6 he6 hq6' x H7 hx he7 hst7 r H8 hr0 hr1 he8 hst8 t ht H9 he9 ht'
    have hxi : ∃ z : Int, 0 ≤ z ∧ z ≤ 20 ∧ x = V.int z := by
      simp only [List.mem_cons, List.not_mem_nil, or_false] at hx
      rcases hx with rfl | rfl | rfl | rfl | rfl | rfl <;> exact ⟨_, by decide, by decide, rfl⟩
    obtain ⟨z, z0, z1, rfl⟩ := hxi
    have e09 : Ex TT (ms sa H) (ms sa H9) := by walk_at "up"
    have hst9 : StAt H9 sa sc b0 := by walk_at "up"
    have t9 : Tu Hx' H9 := tuM hstx (by walk_at "up")
    have h19 : H9 d1 = some (.dK kvs) := by walk_at "up"
    have h29 : H9 d2 = some (.dK []) := by walk_at "up"
    have hl9 : H9 la = some (.lst (nm.map V.str)) := by walk_at "up"
    have hfresh : n ∉ src.map (·.1) := by
      rw [hmp]
      intro hm
      obtain ⟨w1, w2⟩ := List.getElem?_eq_some_iff.mp hn
      obtain ⟨j, hj1, hj2⟩ := List.mem_take_iff_getElem.mp hm
      have : j = i := by
        have hj3 : j < nm.length := by omega
        exact (List.getElem_inj hnd).mp (hj2.trans w2.symm)
      omega
    refine ⟨⟨_, putK kvs (Sum.inr n) (.ref t), src ++ [(n, z, 1 + r)], rfl, mut_ms e09 hd1 h1ne h19, hst9.upd' h1ne, by rw [upd_ne (Ne.symm n1l)]; exact hl9, by rw [upd_ne (Ne.symm n12)]; exact h29, upd_same, ?_, ?_, ?_⟩⟩
    · refine DctAt.snoc (DctAt.imp hdx fun _ _ y => y.tu (t9.trans (Tu.set h19))) hfresh ⟨t, rfl, ?_⟩
      exact (Tu.set h19) _ _ ht'
    · rw [List.map_append, hmp, List.take_add_one, hn]
      rfl
    · intro s hs
      rcases List.mem_append.mp hs with hs | hs
      · exact hok s hs
      · simp at hs
        subst hs
        have h5 : n ∈ (["a", "b", "c", "v", "w"] : List Str) := by
          have := hnm n hnn
          simp only [List.mem_cons, List.not_mem_nil, or_false] at this ⊢
          rcases this with h | h | h
          · exact .inl h
          · exact .inr (.inl h)
          · exact .inr (.inr (.inl h))
        exact ⟨good_of h5, z0, z1, by simp only; omega, by simp only; omega⟩
  · rintro σ Hx ⟨u4, kvs, src, rfl, ex, hstx, hlx, h2x, h1x, hdx, hmp, hok⟩
    rw [hL, List.take_length] at hmp
    have hscx : SqL K Hx sc (ns.map V.int) := sqM hsc hss ex
    have lkv := hdx.len
    have lsrc : src.length = nm.length := by rw [← hmp, List.length_map]
    walk_at "rd"
    rename_i fa0 hfa H6 he6 hfa' q7 hq7 H7 he7 hq7' r2 H8 hs0 hs1 he8 hst8 lb hlb H9 he9 hlb'
    have hvm : ∃ vn : List Str, cutV [V.str (Str.ofString "v"), V.str (Str.ofString "w")] none (some r2) = vn.map V.str ∧ vn.Nodup ∧ vn.length ≤ 2 ∧ ∀ x ∈ vn, x ∈ (["v", "w"] : List Str) := by
      have : r2 = 0 ∨ r2 = 1 ∨ r2 = 2 := by omega
      rcases this with rfl | rfl | rfl
      · exact ⟨[], rfl, by decide +kernel, by decide, by decide +kernel⟩
      · exact ⟨["v"], rfl, by decide +kernel, by decide, by decide +kernel⟩
      · exact ⟨["v", "w"], rfl, by decide +kernel, by decide, by decide +kernel⟩
    obtain ⟨vn, hcut2, hvnd, hv2, hvm⟩ := hvm
    have hlb9 : H9 lb = some (.lst (vn.map V.str)) := by rw [← hcut2]; exact hlb'
    have e09 : Ex TT (ms sa H) (ms sa H9) := by walk_at "up"
    have hst9 : StAt H9 sa sc b0 := by walk_at "up"
    have t9 : Tu Hx H9 := tuM hstx (by walk_at "up")
    have h19 : H9 d1 = some (.dK kvs) := by walk_at "up"
    have h29 : H9 d2 = some (.dK []) := by walk_at "up"
    have hf9 : H9 fa0 = some (.lst ((src.map (·.1)).map V.str)) := by
      have : H9 fa0 = some (.lst (kvs.map fun kv => kV kv.1)) := by walk_at "up"
      rw [this, hdx.keys]
    have hlbne : lb ≠ sa := ne_st hlb hst8
    have n2l : d2 ≠ lb := ne_of_at (show H8 d2 = some (.dK []) by walk_at "up") hlb
    have hdx9 : DctAt (SrcAt H9) kvs src := DctAt.imp hdx fun _ _ y => y.tu t9
    have hL2 : (vn.map V.str).length = vn.length := List.length_map _
    have ndsrc : (src.map (·.1)).Nodup := by rw [hmp]; exact hnd
    have srcgood : ∀ x ∈ src.map (·.1), x ∈ (["a", "b", "c"] : List Str) := fun x hx => by rw [hmp] at hx; exact hnm x hx
    refine for_goB (walk_list (K := K) (a := lb) (xs := vn.map V.str)) (fun j σ Hy => ∃ u4 fa u6 u7 u8 kv2 vws, σ = [some (.ref sa), some (.int 5), some (.ref d1), some (.ref d2), u4, some (.ref fa), u6, u7, u8, none] ∧ Ex TT (ms sa H) (ms sa Hy) ∧ StAt Hy sa sc b0 ∧ Hy lb = some (.lst (vn.map V.str)) ∧ Hy d2 = some (.dK kv2) ∧ Hy d1 = some (.dK kvs) ∧ DctAt (SrcAt Hy) kvs src ∧ DctAt (VwAt Hy) kv2 vws ∧ vws.map (·.1) = vn.take j ∧
        VwsOk (src.map (·.1)) (src.map (·.1)) vws ∧ fa ≠ sa ∧ Hy fa = some (.lst ((vws.foldl freeBy (src.map (·.1))).map V.str)) ∧ 0 < (vws.foldl freeBy (src.map (·.1))).length ∧ (vws.foldl freeBy (src.map (·.1))).length ≤ 3 + j ∧ (vws.foldl freeBy (src.map (·.1))).Nodup ∧ ∀ x ∈ vws.foldl freeBy (src.map (·.1)), x ∈ src.map (·.1) ++ vws.map (·.1))
      ⟨_, fa0, none, none, none, [], [], rfl, e09, hst9, hlb9, h29, h19, hdx9, .nil, rfl, trivial, ne_st hfa hstx, hf9, by rw [List.foldl_nil, List.length_map]; omega, by rw [List.foldl_nil, List.length_map]; omega, ndsrc, fun x hx => List.mem_append_left _ hx⟩ (fun j σ Hy hj ⟨_, _, _, _, _, _, _, _, _, _, hl, _⟩ => SqL.of hl) ?_ ?_
    · intro j y σ Hy Hy' hj ⟨u4, fa, u6, u7, u8, kv2, vws, es, ey, hsty, hly, h2y, h1y, hdy, hvy, hmv, hvo, hfane, hfy, hf0, hf5, hfnd, hfk⟩ yy
      subst es
      obtain ⟨rfl, hy⟩ := yy
      rw [hL2] at hj
      obtain ⟨n, hn⟩ : ∃ b, vn[j]? = some b := ⟨vn[j], List.getElem?_eq_getElem _⟩
      have hnn := List.mem_of_getElem? hn
      rw [List.getElem?_map, hn] at hy
      cases hy
      have hscy : SqL K Hy' sc (ns.map V.int) := sqM hsc hss ey
      have lv := hvy.len
      have lvj : vws.length = j := by
        have := congrArg List.length hmv
        rw [List.length_map, List.length_take] at this
        omega
      have hlt5 : (kvs.length : Int) + (kv2.length : Int) < 5 := by omega
      have lkv2 : kv2.length ≤ 5 := by omega
      generalize hfr : vws.foldl freeBy (src.map (·.1)) = fr at hfy hf0 hf5 hfnd hfk
      have hsqf : SqL K Hy' fa (fr.map V.str) ∨ SqT K Hy' fa (fr.map V.str) := .inl (SqL.of hfy)
      have hfpos : (0 : Int) < ((fr.map V.str).length : Int) := by rw [List.length_map]; omega
      walk_at "rd"
      rename_i ra Ha ha0 ha1 hea hsta pa hpa Hb heb hb' rb Hc hb0 hb1 hec hstc pu hpu Hd hed hu' pw hpw He hee hw' wd Hf hwd hef hstf rr Hg hr0' hr1' heg hstg
      rw [List.length_map] at ha1
      rw [cut_from fr ha0 (by omega)] at hu' hb'
      rw [cut_to _ (by omega)] at hu'
      obtain ⟨us, hus⟩ : ∃ us, us = (fr.drop ra.toNat).take (1 + rb).toNat := ⟨_, rfl⟩
      rw [← hus] at hu'
      have us0 : 0 < us.length := by rw [hus, List.length_take, List.length_drop]; omega
      have us4 : us.length ≤ 4 := by rw [hus, List.length_take]; omega
      have usm : ∀ x ∈ us, x ∈ fr := fun x hx => by rw [hus] at hx; exact List.mem_of_mem_drop (List.mem_of_mem_take hx)
      have usn : us.Nodup := by
        rw [hus]
        exact (hfnd.sublist (List.drop_sublist _ _)).sublist (List.take_sublist _ _)
      have hug : Hg pu = some (.lst (us.map V.str)) := by walk_at "up"
      have hwm : ∃ ws : Str, wd = V.str ws ∧ (ws = "sum" ∨ ws = "min" ∨ ws = "max") := by
        simp only [List.mem_cons, List.not_mem_nil, or_false] at hwd
        rcases hwd with rfl | rfl | rfl | rfl
        · exact ⟨_, rfl, .inl rfl⟩
        · exact ⟨_, rfl, .inr (.inl rfl)⟩
        · exact ⟨_, rfl, .inr (.inr rfl)⟩
        · exact ⟨_, rfl, .inl rfl⟩
      obtain ⟨ws, rfl, hws⟩ := hwm
      have hnk : n ∉ src.map (·.1) ++ vws.map (·.1) := by
        intro hm
        rcases List.mem_append.mp hm with hm | hm
        · have a1 := srcgood n hm
          have a2 := hvm n hnn
          have : ∀ x ∈ (["v", "w"] : List Str), x ∉ (["a", "b", "c"] : List Str) := by decide +kernel
          exact this n a2 a1
        · rw [hmv] at hm
          obtain ⟨w1, w2⟩ := List.getElem?_eq_some_iff.mp hn
          obtain ⟨j', hj1, hj2⟩ := List.mem_take_iff_getElem.mp hm
          have : j' = j := (List.getElem_inj hvnd).mp (hj2.trans w2.symm)
          omega
      have hnv : n ∉ vws.map (·.1) := fun z => hnk (List.mem_append_right _ z)
      have hgood : Good n := good_of (by
        have := hvm n hnn
        simp only [List.mem_cons, List.not_mem_nil, or_false] at this ⊢
        rcases this with h | h
        · exact .inr (.inr (.inr (.inl h)))
        · exact .inr (.inr (.inr (.inr h))))
      have hgst : StAt Hg sa sc b0 := hstg
      have hlg : Hg lb = some (.lst (vn.map V.str)) := by walk_at "up"
      have h2g : Hg d2 = some (.dK kv2) := by walk_at "up"
      have h1g : Hg d1 = some (.dK kvs) := by walk_at "up"
      have hfg : Hg fa = some (.lst (fr.map V.str)) := by walk_at "up"
      have tug : Tu Hy' Hg := tuM hsty (by walk_at "up")
      have hdg : DctAt (SrcAt Hg) kvs src := DctAt.imp hdy fun _ _ y => y.tu tug
      have hvg : DctAt (VwAt Hg) kv2 vws := DctAt.imp hvy fun _ _ y => y.tu tug
      have pune : pu ≠ sa := ne_st hpu hstc
      have e0g : Ex TT (ms sa H) (ms sa Hg) := by walk_at "up"
      have hscg : SqL K Hg sc (ns.map V.int) := sqM hsc hss e0g
      refine ite2 (fun hc => ?_) (fun hc => ?_)
      · walk_at "rd"
        rename_i pr hpr Hh heh hr'
        refine .inl ⟨SqL.of hr', ?_⟩
        obtain ⟨il, hil⟩ : ∃ il, il = us.reverse := ⟨_, rfl⟩
        have il0 : 0 < il.length := by rw [hil]; simpa using us0
        have il4 : il.length ≤ 4 := by rw [hil]; simpa using us4
        have ilm : ∀ x ∈ il, x ∈ fr := fun x hx => usm x (by rw [hil] at hx; simpa using hx)
        have iln : il.Nodup := by rw [hil]; first | exact usn | exact (List.reverse_perm us).nodup_iff.mpr usn
        by_cases hw : ws = "sum"
        · have hw' : V.str ws = V.str "sum" := by rw [hw]
          walk_at "rd"
          rename_i pt0 hpt0 H10 he10 hpt0'
          have hpt1 : H10 pt0 = some (.tup (il.map V.str)) := by rw [hpt0', hil, List.map_reverse]
          have st10 : StAt H10 sa sc b0 := by walk_at "up"
          have pt0ne := st10.neT hpt1
          have wkt := walk_tup (K := K) (a := pt0) (xs := il.map V.str)
          rw [List.length_map] at wkt
          have e010 : Ex TT (ms sa H) (ms sa H10) := by walk_at "up"
          have hsc10 : SqL K H10 sc (ns.map V.int) := sqM hsc hss e010
          refine lc_mapM (T := TT) st10 il (fun H y c => RowAt H y c) (fun x c => c.2 = x ∧ -5 ≤ c.1 ∧ c.1 ≤ 5 ∧ c.1 ≠ 0) (fun y c Ha Hb t h => h.tu t) wkt (by omega) (fun H' st e => SqT.of (atMT e pt0ne hpt1)) ?_ ?_
          · intro i x y Hq Hq' K1 K0 hxi eq stq yy kk1
            obtain ⟨rfl, hy⟩ := yy
            rw [List.getElem?_map, hxi] at hy
            cases hy
            have hscq : SqL K Hq' sc (ns.map V.int) := sqM hsc10 hss eq
            walk_at "rd"
            rename_i ql hql Hr her hql' z Ht hz het stt qt hqt Hu heu hqt'
            have hzi : ∃ c : Int, -5 ≤ c ∧ c ≤ 5 ∧ c ≠ 0 ∧ z = V.int c := by
              simp only [List.mem_cons, List.not_mem_nil, or_false] at hz
              rcases hz with rfl | rfl | rfl | rfl | rfl | rfl | rfl <;> exact ⟨_, by decide, by decide, by decide, rfl⟩
            obtain ⟨c, z1, z2, z3, rfl⟩ := hzi
            exact kk1 _ (c, x) _ (by walk_at "up") (by walk_at "up") ⟨qt, rfl, hqt'⟩ ⟨rfl, z1, z2, z3⟩
          · intro D9 ys cs H9 hD9 e9 st9 hd9 hR hB
            have cnames : (Frm.mk ws cs).names = il := by
              show cs.map (·.2) = il
              clear hR hd9
              have : ∀ {l : List Str} {cs : List (Int × Str)}, Paired (fun x c => c.2 = x ∧ -5 ≤ c.1 ∧ c.1 ≤ 5 ∧ c.1 ≠ 0) l cs → cs.map (·.2) = l := by
                intro l cs h
                induction h with
                | nil => rfl
                | cons a r ih => rw [List.map_cons, ih, a.1]
              exact this hB
            have cfac : ∀ t ∈ cs, -5 ≤ t.1 ∧ t.1 ≤ 5 ∧ t.1 ≠ 0 := by
              have : ∀ {l : List Str} {cs : List (Int × Str)}, Paired (fun x c => c.2 = x ∧ -5 ≤ c.1 ∧ c.1 ≤ 5 ∧ c.1 ≠ 0) l cs → ∀ t ∈ cs, -5 ≤ t.1 ∧ t.1 ≤ 5 ∧ t.1 ≠ 0 := by
                intro l cs h
                induction h with
                | nil => intro t ht; cases ht
                | cons a r ih =>
                  intro t ht
                  rcases List.mem_cons.mp ht with rfl | ht
                  · exact a.2
                  · exact ih t ht
              exact this hB
            have clen := Paired.length hB
            have hsc9 : SqL K H9 sc (ns.map V.int) := sqM hsc10 hss e9
            have h2m9 : H9 d2 = some (.dK kv2) := by walk_at "up"
            have pt9 : Tu Hg H9 := tuM hgst (by walk_at "up")
            walk_at "rd"
            refine .inl ⟨SqL.of hd9, ?_⟩
            walk_at "rd"
            rename_i pt hpt H11 he11 hpt' p12 hp12 H12 he12 hp12' rc H13 hc0 hc1 he13 hst13 pv hpv H14 he14 hpv'
            have hfrm : ∃ f : Frm, f.word = ws ∧ f.names = il ∧ FrmOk f ∧ InsAt H14 f (V.ref pt) := by 
              refine ⟨⟨ws, cs⟩, rfl, cnames, ⟨hws, by simp only; omega, by simp only; omega, fun t ht => ?_⟩, ⟨pt, ys, rfl, by walk_at "up", .inl ⟨hw, ?_⟩⟩⟩
              · exact cfac t ht
              · exact Rows.tu (tuM st9 (by walk_at "up")) hR
            obtain ⟨f, hfw, hfn, hfo, hfi⟩ := hfrm
            have hvw : VwAt H14 (V.ref pv) (f, 1 + rc) := ⟨pv, V.ref p12, rfl, hpv', p12, V.ref pt, rfl, by rw [hfw]; walk_at "up", hfi⟩
            have n2f : d2 ≠ fa := fun z => by rw [z, hfg] at h2g; cases h2g
            have n2u : d2 ≠ pu := fun z => by rw [z, hug] at h2g; cases h2g
            have n21 : d1 ≠ d2 := n12
            have h2m : H14 d2 = some (.dK kv2) := by walk_at "up"
            have hlm : H14 lb = some (.lst (vn.map V.str)) := by walk_at "up"
            have h1m : H14 d1 = some (.dK kvs) := by walk_at "up"
            have hfm : H14 fa = some (.lst (fr.map V.str)) := by walk_at "up"
            have hum : H14 pu = some (.lst (us.map V.str)) := by walk_at "up"
            have stm : StAt H14 sa sc b0 := by walk_at "up"
            have tum : Tu Hg H14 := tuM hgst (by walk_at "up")
            have e14 : Ex TT (ms sa H) (ms sa H14) := by walk_at "up"
            have e15 : Ex TT (ms sa H) (ms sa (upd H14 d2 (.dK (putK kv2 (Sum.inr n) (V.ref pv))))) := mut_ms e14 hd20 h2ne h2m
            have st15 : StAt (upd H14 d2 (.dK (putK kv2 (Sum.inr n) (V.ref pv)))) sa sc b0 := stm.upd' h2ne
            have hl15 : upd H14 d2 (.dK (putK kv2 (Sum.inr n) (V.ref pv))) lb = some (.lst (vn.map V.str)) := upd_at n2l hlm
            have h115 : upd H14 d2 (.dK (putK kv2 (Sum.inr n) (V.ref pv))) d1 = some (.dK kvs) := upd_at (Ne.symm n21) h1m
            have hf15 : upd H14 d2 (.dK (putK kv2 (Sum.inr n) (V.ref pv))) fa = some (.lst (fr.map V.str)) := upd_at n2f hfm
            have hu15 : upd H14 d2 (.dK (putK kv2 (Sum.inr n) (V.ref pv))) pu = some (.lst (us.map V.str)) := upd_at n2u hum
            have h215 : upd H14 d2 (.dK (putK kv2 (Sum.inr n) (V.ref pv))) d2 = some (.dK (putK kv2 (Sum.inr n) (V.ref pv))) := upd_same
            have t15 : Tu H14 (upd H14 d2 (.dK (putK kv2 (Sum.inr n) (V.ref pv)))) := Tu.set h2m
            refine ⟨⟨_, SqL.of hf15⟩, ?_⟩
            generalize upd H14 d2 (.dK (putK kv2 (Sum.inr n) (V.ref pv))) = H15 at e15 st15 hl15 h115 hf15 hu15 h215 t15
            refine lc_lstP (T := TT) fr (fun v x => v = V.str x) hf15 (Paired.of_fn _) (by omega) (fun x => decide (x ∉ f.names)) (fun _ y x => y = V.str x) (fun _ _ _ _ _ h => h) ?_ ?_
            · intro x v Hq K1 K0 hxm hv eq kk1 kk0
              subst hv
              have huq : Hq pu = some (.lst (us.map V.str)) := eq.at hu15
              have ein : (!inV (V.str x) (us.map V.str)) = decide (x ∉ f.names) := by
                rw [inV_strs, hfn, hil]
                simp
              walk_at "rd"
              refine ite2 (fun hc => ?_) (fun hc => ?_)
              · have hc : (!inV (V.str x) (us.map V.str)) = true := hc
                rw [ein] at hc
                walk_at "rd"
                exact kk1 hc _ _ (Ex.refl _) rfl
              · have hc : ¬ (!inV (V.str x) (us.map V.str)) = true := hc
                rw [ein] at hc
                exact kk0 (by simpa using hc) _ (Ex.refl _)
            · intro D8 ys H16 hD8 e16 hd8 qq
              have ey := Paired.fn (f := V.str) qq
              have lf : (fr.filter fun x => decide (x ∉ f.names)).length ≤ fr.length := List.length_filter_le _ _
              have ly : ys.length ≤ fr.length := by rw [ey, List.length_map]; exact lf
              walk_at "rd"
              rename_i q17 hq17 H17 he17 hq17' fa' hfa' H18 he18 hfa''
              have e158 : Ex TT H15 H18 := by walk_at "up"
              have hfree : ys ++ [V.str n] = (freeBy fr (n, f, 1 + rc)).map V.str := by
                unfold freeBy
                rw [List.map_append, List.map_singleton, ey]
              rw [hfree] at hfa''
              have hfold : (vws ++ [(n, f, 1 + rc)]).foldl freeBy (src.map (·.1)) = freeBy fr (n, f, 1 + rc) := by
                rw [List.foldl_append, hfr]
                rfl
              have st17 : StAt H17 sa sc b0 := by walk_at "up"
              obtain ⟨c15, _, z15⟩ := st15
              have e018 : Ex TT (ms sa H) (ms sa H18) := e15.trans (e158.mask z15 rfl)
              refine ⟨⟨_, fa', _, _, _, putK kv2 (Sum.inr n) (V.ref pv), vws ++ [(n, f, 1 + rc)], rfl, e018, st17.ex' he18, e158.at hl15, e158.at h215, e158.at h115, DctAt.imp hdg fun _ _ y => y.tu (tum.trans (t15.trans e158.tu)), ?_, ?_, ?_, ne_st hfa' st17, by rw [hfold]; exact hfa'', ?_, ?_, ?_, ?_⟩⟩
              · exact DctAt.snoc (DctAt.imp hvg fun _ _ y => y.tu (tum.trans (t15.trans e158.tu))) hnv (hvw.tu (t15.trans e158.tu))
              · rw [List.map_append, hmv, List.take_add_one, hn]
                rfl
              · refine VwsOk.snoc hvo ?_
                rw [hfr]
                exact ⟨hgood, hnk, hfo, by simp only [hfn]; exact ilm, by simp only [hfn]; exact iln, by simp only; omega, by simp only; omega⟩
              · rw [hfold]
                unfold freeBy
                rw [List.length_append, List.length_singleton]
                omega
              · rw [hfold]
                unfold freeBy
                rw [List.length_append, List.length_singleton]
                have := List.length_filter_le (fun x => decide (x ∉ (n, f, 1 + rc).2.1.names)) fr
                omega
              · rw [hfold]
                unfold freeBy
                rw [List.nodup_append]
                refine ⟨hfnd.filter _, List.pairwise_singleton _ _, fun a ha b hb => ?_⟩
                simp at hb
                subst hb
                intro z
                subst z
                exact hnk (hfk _ (List.mem_filter.mp ha).1)
              · rw [hfold]
                intro x hx
                unfold freeBy at hx
                rw [List.map_append]
                rcases List.mem_append.mp hx with hx | hx
                · have := hfk x (List.mem_filter.mp hx).1
                  rcases List.mem_append.mp this with h | h
                  · exact List.mem_append_left _ h
                  · exact List.mem_append_right _ (List.mem_append_left _ h)
                · exact List.mem_append_right _ (List.mem_append_right _ hx)
        · have hw' : ¬ V.str ws = V.str "sum" := fun z => hw (V.str.inj z)
          walk_at "rd"
          rename_i pt hpt H11 he11 hpt' p12 hp12 H12 he12 hp12' rc H13 hc0 hc1 he13 hst13 pv hpv H14 he14 hpv'
          have hfrm : ∃ f : Frm, f.word = ws ∧ f.names = il ∧ FrmOk f ∧ InsAt H14 f (V.ref pt) := by 
            refine ⟨⟨ws, il.map fun x => (1, x)⟩, rfl, ?_, ⟨hws, by simp only [List.length_map]; omega, by simp only [List.length_map]; omega, fun t ht => ?_⟩, ⟨pt, il.map V.str, rfl, ?_, .inr ⟨hw, ?_⟩⟩⟩
            · unfold Frm.names
              rw [List.map_map]
              exact List.map_id _
            · obtain ⟨x, _, rfl⟩ := List.mem_map.mp ht
              exact ⟨show (-5 : Int) ≤ 1 by decide, show (1 : Int) ≤ 5 by decide, show (1 : Int) ≠ 0 by decide⟩
            · have hpt2 : H14 pt = some (.tup ((us.map V.str).reverse)) := by walk_at "up"
              rw [hpt2, hil, List.map_reverse]
            · show il.map V.str = ((il.map fun x => ((1 : Int), x)).map (·.2)).map V.str
              rw [show (il.map fun x => ((1 : Int), x)).map (·.2) = il by rw [List.map_map]; exact List.map_id _]
          obtain ⟨f, hfw, hfn, hfo, hfi⟩ := hfrm
          have hvw : VwAt H14 (V.ref pv) (f, 1 + rc) := ⟨pv, V.ref p12, rfl, hpv', p12, V.ref pt, rfl, by rw [hfw]; walk_at "up", hfi⟩
          have n2f : d2 ≠ fa := fun z => by rw [z, hfg] at h2g; cases h2g
          have n2u : d2 ≠ pu := fun z => by rw [z, hug] at h2g; cases h2g
          have n21 : d1 ≠ d2 := n12
          have h2m : H14 d2 = some (.dK kv2) := by walk_at "up"
          have hlm : H14 lb = some (.lst (vn.map V.str)) := by walk_at "up"
          have h1m : H14 d1 = some (.dK kvs) := by walk_at "up"
          have hfm : H14 fa = some (.lst (fr.map V.str)) := by walk_at "up"
          have hum : H14 pu = some (.lst (us.map V.str)) := by walk_at "up"
          have stm : StAt H14 sa sc b0 := by walk_at "up"
          have tum : Tu Hg H14 := tuM hgst (by walk_at "up")
          have e14 : Ex TT (ms sa H) (ms sa H14) := by walk_at "up"
          have e15 : Ex TT (ms sa H) (ms sa (upd H14 d2 (.dK (putK kv2 (Sum.inr n) (V.ref pv))))) := mut_ms e14 hd20 h2ne h2m
          have st15 : StAt (upd H14 d2 (.dK (putK kv2 (Sum.inr n) (V.ref pv)))) sa sc b0 := stm.upd' h2ne
          have hl15 : upd H14 d2 (.dK (putK kv2 (Sum.inr n) (V.ref pv))) lb = some (.lst (vn.map V.str)) := upd_at n2l hlm
          have h115 : upd H14 d2 (.dK (putK kv2 (Sum.inr n) (V.ref pv))) d1 = some (.dK kvs) := upd_at (Ne.symm n21) h1m
          have hf15 : upd H14 d2 (.dK (putK kv2 (Sum.inr n) (V.ref pv))) fa = some (.lst (fr.map V.str)) := upd_at n2f hfm
          have hu15 : upd H14 d2 (.dK (putK kv2 (Sum.inr n) (V.ref pv))) pu = some (.lst (us.map V.str)) := upd_at n2u hum
          have h215 : upd H14 d2 (.dK (putK kv2 (Sum.inr n) (V.ref pv))) d2 = some (.dK (putK kv2 (Sum.inr n) (V.ref pv))) := upd_same
          have t15 : Tu H14 (upd H14 d2 (.dK (putK kv2 (Sum.inr n) (V.ref pv)))) := Tu.set h2m
          refine ⟨⟨_, SqL.of hf15⟩, ?_⟩
          generalize upd H14 d2 (.dK (putK kv2 (Sum.inr n) (V.ref pv))) = H15 at e15 st15 hl15 h115 hf15 hu15 h215 t15
          refine lc_lstP (T := TT) fr (fun v x => v = V.str x) hf15 (Paired.of_fn _) (by omega) (fun x => decide (x ∉ f.names)) (fun _ y x => y = V.str x) (fun _ _ _ _ _ h => h) ?_ ?_
          · intro x v Hq K1 K0 hxm hv eq kk1 kk0
            subst hv
            have huq : Hq pu = some (.lst (us.map V.str)) := eq.at hu15
            have ein : (!inV (V.str x) (us.map V.str)) = decide (x ∉ f.names) := by
              rw [inV_strs, hfn, hil]
              simp
            walk_at "rd"
            refine ite2 (fun hc => ?_) (fun hc => ?_)
            · have hc : (!inV (V.str x) (us.map V.str)) = true := hc
              rw [ein] at hc
              walk_at "rd"
              exact kk1 hc _ _ (Ex.refl _) rfl
            · have hc : ¬ (!inV (V.str x) (us.map V.str)) = true := hc
              rw [ein] at hc
              exact kk0 (by simpa using hc) _ (Ex.refl _)
          · intro D8 ys H16 hD8 e16 hd8 qq
            have ey := Paired.fn (f := V.str) qq
            have lf : (fr.filter fun x => decide (x ∉ f.names)).length ≤ fr.length := List.length_filter_le _ _
            have ly : ys.length ≤ fr.length := by rw [ey, List.length_map]; exact lf
            walk_at "rd"
            rename_i q17 hq17 H17 he17 hq17' fa' hfa' H18 he18 hfa''
            have e158 : Ex TT H15 H18 := by walk_at "up"
            have hfree : ys ++ [V.str n] = (freeBy fr (n, f, 1 + rc)).map V.str := by
              unfold freeBy
              rw [List.map_append, List.map_singleton, ey]
            rw [hfree] at hfa''
            have hfold : (vws ++ [(n, f, 1 + rc)]).foldl freeBy (src.map (·.1)) = freeBy fr (n, f, 1 + rc) := by
              rw [List.foldl_append, hfr]
              rfl
            have st17 : StAt H17 sa sc b0 := by walk_at "up"
            obtain ⟨c15, _, z15⟩ := st15
            have e018 : Ex TT (ms sa H) (ms sa H18) := e15.trans (e158.mask z15 rfl)
            refine ⟨⟨_, fa', _, _, _, putK kv2 (Sum.inr n) (V.ref pv), vws ++ [(n, f, 1 + rc)], rfl, e018, st17.ex' he18, e158.at hl15, e158.at h215, e158.at h115, DctAt.imp hdg fun _ _ y => y.tu (tum.trans (t15.trans e158.tu)), ?_, ?_, ?_, ne_st hfa' st17, by rw [hfold]; exact hfa'', ?_, ?_, ?_, ?_⟩⟩
            · exact DctAt.snoc (DctAt.imp hvg fun _ _ y => y.tu (tum.trans (t15.trans e158.tu))) hnv (hvw.tu (t15.trans e158.tu))
            · rw [List.map_append, hmv, List.take_add_one, hn]
              rfl
            · refine VwsOk.snoc hvo ?_
              rw [hfr]
              exact ⟨hgood, hnk, hfo, by simp only [hfn]; exact ilm, by simp only [hfn]; exact iln, by simp only; omega, by simp only; omega⟩
            · rw [hfold]
              unfold freeBy
              rw [List.length_append, List.length_singleton]
              omega
            · rw [hfold]
              unfold freeBy
              rw [List.length_append, List.length_singleton]
              have := List.length_filter_le (fun x => decide (x ∉ (n, f, 1 + rc).2.1.names)) fr
              omega
            · rw [hfold]
              unfold freeBy
              rw [List.nodup_append]
              refine ⟨hfnd.filter _, List.pairwise_singleton _ _, fun a ha b hb => ?_⟩
              simp at hb
              subst hb
              intro z
              subst z
              exact hnk (hfk _ (List.mem_filter.mp ha).1)
            · rw [hfold]
              intro x hx
              unfold freeBy at hx
              rw [List.map_append]
              rcases List.mem_append.mp hx with hx | hx
              · have := hfk x (List.mem_filter.mp hx).1
                rcases List.mem_append.mp this with h | h
                · exact List.mem_append_left _ h
                · exact List.mem_append_right _ (List.mem_append_left _ h)
              · exact List.mem_append_right _ (List.mem_append_right _ hx)
      · walk_at "rd"
        refine .inl ⟨SqL.of hug, ?_⟩
        obtain ⟨il, hil⟩ : ∃ il, il = us := ⟨_, rfl⟩
        have il0 : 0 < il.length := by rw [hil]; simpa using us0
        have il4 : il.length ≤ 4 := by rw [hil]; simpa using us4
        have ilm : ∀ x ∈ il, x ∈ fr := fun x hx => usm x (by rw [hil] at hx; simpa using hx)
        have iln : il.Nodup := by rw [hil]; first | exact usn | exact (List.reverse_perm us).nodup_iff.mpr usn
        by_cases hw : ws = "sum"
        · have hw' : V.str ws = V.str "sum" := by rw [hw]
          walk_at "rd"
          rename_i pt0 hpt0 H10 he10 hpt0'
          have hpt1 : H10 pt0 = some (.tup (il.map V.str)) := by rw [hpt0', hil]
          have st10 : StAt H10 sa sc b0 := by walk_at "up"
          have pt0ne := st10.neT hpt1
          have wkt := walk_tup (K := K) (a := pt0) (xs := il.map V.str)
          rw [List.length_map] at wkt
          have e010 : Ex TT (ms sa H) (ms sa H10) := by walk_at "up"
          have hsc10 : SqL K H10 sc (ns.map V.int) := sqM hsc hss e010
          refine lc_mapM (T := TT) st10 il (fun H y c => RowAt H y c) (fun x c => c.2 = x ∧ -5 ≤ c.1 ∧ c.1 ≤ 5 ∧ c.1 ≠ 0) (fun y c Ha Hb t h => h.tu t) wkt (by omega) (fun H' st e => SqT.of (atMT e pt0ne hpt1)) ?_ ?_
          · intro i x y Hq Hq' K1 K0 hxi eq stq yy kk1
            obtain ⟨rfl, hy⟩ := yy
            rw [List.getElem?_map, hxi] at hy
            cases hy
            have hscq : SqL K Hq' sc (ns.map V.int) := sqM hsc10 hss eq
            walk_at "rd"
            rename_i ql hql Hr her hql' z Ht hz het stt qt hqt Hu heu hqt'
            have hzi : ∃ c : Int, -5 ≤ c ∧ c ≤ 5 ∧ c ≠ 0 ∧ z = V.int c := by
              simp only [List.mem_cons, List.not_mem_nil, or_false] at hz
              rcases hz with rfl | rfl | rfl | rfl | rfl | rfl | rfl <;> exact ⟨_, by decide, by decide, by decide, rfl⟩
            obtain ⟨c, z1, z2, z3, rfl⟩ := hzi
            exact kk1 _ (c, x) _ (by walk_at "up") (by walk_at "up") ⟨qt, rfl, hqt'⟩ ⟨rfl, z1, z2, z3⟩
          · intro D9 ys cs H9 hD9 e9 st9 hd9 hR hB
            have cnames : (Frm.mk ws cs).names = il := by
              show cs.map (·.2) = il
              clear hR hd9
              have : ∀ {l : List Str} {cs : List (Int × Str)}, Paired (fun x c => c.2 = x ∧ -5 ≤ c.1 ∧ c.1 ≤ 5 ∧ c.1 ≠ 0) l cs → cs.map (·.2) = l := by
                intro l cs h
                induction h with
                | nil => rfl
                | cons a r ih => rw [List.map_cons, ih, a.1]
              exact this hB
            have cfac : ∀ t ∈ cs, -5 ≤ t.1 ∧ t.1 ≤ 5 ∧ t.1 ≠ 0 := by
              have : ∀ {l : List Str} {cs : List (Int × Str)}, Paired (fun x c => c.2 = x ∧ -5 ≤ c.1 ∧ c.1 ≤ 5 ∧ c.1 ≠ 0) l cs → ∀ t ∈ cs, -5 ≤ t.1 ∧ t.1 ≤ 5 ∧ t.1 ≠ 0 := by
                intro l cs h
                induction h with
                | nil => intro t ht; cases ht
                | cons a r ih =>
                  intro t ht
                  rcases List.mem_cons.mp ht with rfl | ht
                  · exact a.2
                  · exact ih t ht
              exact this hB
            have clen := Paired.length hB
            have hsc9 : SqL K H9 sc (ns.map V.int) := sqM hsc10 hss e9
            have h2m9 : H9 d2 = some (.dK kv2) := by walk_at "up"
            have pt9 : Tu Hg H9 := tuM hgst (by walk_at "up")
            walk_at "rd"
            refine .inl ⟨SqL.of hd9, ?_⟩
            walk_at "rd"
            rename_i pt hpt H11 he11 hpt' p12 hp12 H12 he12 hp12' rc H13 hc0 hc1 he13 hst13 pv hpv H14 he14 hpv'
            have hfrm : ∃ f : Frm, f.word = ws ∧ f.names = il ∧ FrmOk f ∧ InsAt H14 f (V.ref pt) := by 
              refine ⟨⟨ws, cs⟩, rfl, cnames, ⟨hws, by simp only; omega, by simp only; omega, fun t ht => ?_⟩, ⟨pt, ys, rfl, by walk_at "up", .inl ⟨hw, ?_⟩⟩⟩
              · exact cfac t ht
              · exact Rows.tu (tuM st9 (by walk_at "up")) hR
            obtain ⟨f, hfw, hfn, hfo, hfi⟩ := hfrm
            have hvw : VwAt H14 (V.ref pv) (f, 1 + rc) := ⟨pv, V.ref p12, rfl, hpv', p12, V.ref pt, rfl, by rw [hfw]; walk_at "up", hfi⟩
            have n2f : d2 ≠ fa := fun z => by rw [z, hfg] at h2g; cases h2g
            have n2u : d2 ≠ pu := fun z => by rw [z, hug] at h2g; cases h2g
            have n21 : d1 ≠ d2 := n12
            have h2m : H14 d2 = some (.dK kv2) := by walk_at "up"
            have hlm : H14 lb = some (.lst (vn.map V.str)) := by walk_at "up"
            have h1m : H14 d1 = some (.dK kvs) := by walk_at "up"
            have hfm : H14 fa = some (.lst (fr.map V.str)) := by walk_at "up"
            have hum : H14 pu = some (.lst (us.map V.str)) := by walk_at "up"
            have stm : StAt H14 sa sc b0 := by walk_at "up"
            have tum : Tu Hg H14 := tuM hgst (by walk_at "up")
            have e14 : Ex TT (ms sa H) (ms sa H14) := by walk_at "up"
            have e15 : Ex TT (ms sa H) (ms sa (upd H14 d2 (.dK (putK kv2 (Sum.inr n) (V.ref pv))))) := mut_ms e14 hd20 h2ne h2m
            have st15 : StAt (upd H14 d2 (.dK (putK kv2 (Sum.inr n) (V.ref pv)))) sa sc b0 := stm.upd' h2ne
            have hl15 : upd H14 d2 (.dK (putK kv2 (Sum.inr n) (V.ref pv))) lb = some (.lst (vn.map V.str)) := upd_at n2l hlm
            have h115 : upd H14 d2 (.dK (putK kv2 (Sum.inr n) (V.ref pv))) d1 = some (.dK kvs) := upd_at (Ne.symm n21) h1m
            have hf15 : upd H14 d2 (.dK (putK kv2 (Sum.inr n) (V.ref pv))) fa = some (.lst (fr.map V.str)) := upd_at n2f hfm
            have hu15 : upd H14 d2 (.dK (putK kv2 (Sum.inr n) (V.ref pv))) pu = some (.lst (us.map V.str)) := upd_at n2u hum
            have h215 : upd H14 d2 (.dK (putK kv2 (Sum.inr n) (V.ref pv))) d2 = some (.dK (putK kv2 (Sum.inr n) (V.ref pv))) := upd_same
            have t15 : Tu H14 (upd H14 d2 (.dK (putK kv2 (Sum.inr n) (V.ref pv)))) := Tu.set h2m
            refine ⟨⟨_, SqL.of hf15⟩, ?_⟩
            generalize upd H14 d2 (.dK (putK kv2 (Sum.inr n) (V.ref pv))) = H15 at e15 st15 hl15 h115 hf15 hu15 h215 t15
            refine lc_lstP (T := TT) fr (fun v x => v = V.str x) hf15 (Paired.of_fn _) (by omega) (fun x => decide (x ∉ f.names)) (fun _ y x => y = V.str x) (fun _ _ _ _ _ h => h) ?_ ?_
            · intro x v Hq K1 K0 hxm hv eq kk1 kk0
              subst hv
              have huq : Hq pu = some (.lst (us.map V.str)) := eq.at hu15
              have ein : (!inV (V.str x) (us.map V.str)) = decide (x ∉ f.names) := by
                rw [inV_strs, hfn, hil]
                simp
              walk_at "rd"
              refine ite2 (fun hc => ?_) (fun hc => ?_)
              · have hc : (!inV (V.str x) (us.map V.str)) = true := hc
                rw [ein] at hc
                walk_at "rd"
                exact kk1 hc _ _ (Ex.refl _) rfl
              · have hc : ¬ (!inV (V.str x) (us.map V.str)) = true := hc
                rw [ein] at hc
                exact kk0 (by simpa using hc) _ (Ex.refl _)
            · intro D8 ys H16 hD8 e16 hd8 qq
              have ey := Paired.fn (f := V.str) qq
              have lf : (fr.filter fun x => decide (x ∉ f.names)).length ≤ fr.length := List.length_filter_le _ _
              have ly : ys.length ≤ fr.length := by rw [ey, List.length_map]; exact lf
              walk_at "rd"
              rename_i q17 hq17 H17 he17 hq17' fa' hfa' H18 he18 hfa''
              have e158 : Ex TT H15 H18 := by walk_at "up"
              have hfree : ys ++ [V.str n] = (freeBy fr (n, f, 1 + rc)).map V.str := by
                unfold freeBy
                rw [List.map_append, List.map_singleton, ey]
              rw [hfree] at hfa''
              have hfold : (vws ++ [(n, f, 1 + rc)]).foldl freeBy (src.map (·.1)) = freeBy fr (n, f, 1 + rc) := by
                rw [List.foldl_append, hfr]
                rfl
              have st17 : StAt H17 sa sc b0 := by walk_at "up"
              obtain ⟨c15, _, z15⟩ := st15
              have e018 : Ex TT (ms sa H) (ms sa H18) := e15.trans (e158.mask z15 rfl)
              refine ⟨⟨_, fa', _, _, _, putK kv2 (Sum.inr n) (V.ref pv), vws ++ [(n, f, 1 + rc)], rfl, e018, st17.ex' he18, e158.at hl15, e158.at h215, e158.at h115, DctAt.imp hdg fun _ _ y => y.tu (tum.trans (t15.trans e158.tu)), ?_, ?_, ?_, ne_st hfa' st17, by rw [hfold]; exact hfa'', ?_, ?_, ?_, ?_⟩⟩
              · exact DctAt.snoc (DctAt.imp hvg fun _ _ y => y.tu (tum.trans (t15.trans e158.tu))) hnv (hvw.tu (t15.trans e158.tu))
              · rw [List.map_append, hmv, List.take_add_one, hn]
                rfl
              · refine VwsOk.snoc hvo ?_
                rw [hfr]
                exact ⟨hgood, hnk, hfo, by simp only [hfn]; exact ilm, by simp only [hfn]; exact iln, by simp only; omega, by simp only; omega⟩
              · rw [hfold]
                unfold freeBy
                rw [List.length_append, List.length_singleton]
                omega
              · rw [hfold]
                unfold freeBy
                rw [List.length_append, List.length_singleton]
                have := List.length_filter_le (fun x => decide (x ∉ (n, f, 1 + rc).2.1.names)) fr
                omega
              · rw [hfold]
                unfold freeBy
                rw [List.nodup_append]
                refine ⟨hfnd.filter _, List.pairwise_singleton _ _, fun a ha b hb => ?_⟩
                simp at hb
                subst hb
                intro z
                subst z
                exact hnk (hfk _ (List.mem_filter.mp ha).1)
              · rw [hfold]
                intro x hx
                unfold freeBy at hx
                rw [List.map_append]
                rcases List.mem_append.mp hx with hx | hx
                · have := hfk x (List.mem_filter.mp hx).1
                  rcases List.mem_append.mp this with h | h
                  · exact List.mem_append_left _ h
                  · exact List.mem_append_right _ (List.mem_append_left _ h)
                · exact List.mem_append_right _ (List.mem_append_right _ hx)
        · have hw' : ¬ V.str ws = V.str "sum" := fun z => hw (V.str.inj z)
          walk_at "rd"
          rename_i pt hpt H11 he11 hpt' p12 hp12 H12 he12 hp12' rc H13 hc0 hc1 he13 hst13 pv hpv H14 he14 hpv'
          have hfrm : ∃ f : Frm, f.word = ws ∧ f.names = il ∧ FrmOk f ∧ InsAt H14 f (V.ref pt) := by 
            refine ⟨⟨ws, il.map fun x => (1, x)⟩, rfl, ?_, ⟨hws, by simp only [List.length_map]; omega, by simp only [List.length_map]; omega, fun t ht => ?_⟩, ⟨pt, il.map V.str, rfl, ?_, .inr ⟨hw, ?_⟩⟩⟩
            · unfold Frm.names
              rw [List.map_map]
              exact List.map_id _
            · obtain ⟨x, _, rfl⟩ := List.mem_map.mp ht
              exact ⟨show (-5 : Int) ≤ 1 by decide, show (1 : Int) ≤ 5 by decide, show (1 : Int) ≠ 0 by decide⟩
            · have hpt2 : H14 pt = some (.tup (us.map V.str)) := by walk_at "up"
              rw [hpt2, hil]
            · show il.map V.str = ((il.map fun x => ((1 : Int), x)).map (·.2)).map V.str
              rw [show (il.map fun x => ((1 : Int), x)).map (·.2) = il by rw [List.map_map]; exact List.map_id _]
          obtain ⟨f, hfw, hfn, hfo, hfi⟩ := hfrm
          have hvw : VwAt H14 (V.ref pv) (f, 1 + rc) := ⟨pv, V.ref p12, rfl, hpv', p12, V.ref pt, rfl, by rw [hfw]; walk_at "up", hfi⟩
          have n2f : d2 ≠ fa := fun z => by rw [z, hfg] at h2g; cases h2g
          have n2u : d2 ≠ pu := fun z => by rw [z, hug] at h2g; cases h2g
          have n21 : d1 ≠ d2 := n12
          have h2m : H14 d2 = some (.dK kv2) := by walk_at "up"
          have hlm : H14 lb = some (.lst (vn.map V.str)) := by walk_at "up"
          have h1m : H14 d1 = some (.dK kvs) := by walk_at "up"
          have hfm : H14 fa = some (.lst (fr.map V.str)) := by walk_at "up"
          have hum : H14 pu = some (.lst (us.map V.str)) := by walk_at "up"
          have stm : StAt H14 sa sc b0 := by walk_at "up"
          have tum : Tu Hg H14 := tuM hgst (by walk_at "up")
          have e14 : Ex TT (ms sa H) (ms sa H14) := by walk_at "up"
          have e15 : Ex TT (ms sa H) (ms sa (upd H14 d2 (.dK (putK kv2 (Sum.inr n) (V.ref pv))))) := mut_ms e14 hd20 h2ne h2m
          have st15 : StAt (upd H14 d2 (.dK (putK kv2 (Sum.inr n) (V.ref pv)))) sa sc b0 := stm.upd' h2ne
          have hl15 : upd H14 d2 (.dK (putK kv2 (Sum.inr n) (V.ref pv))) lb = some (.lst (vn.map V.str)) := upd_at n2l hlm
          have h115 : upd H14 d2 (.dK (putK kv2 (Sum.inr n) (V.ref pv))) d1 = some (.dK kvs) := upd_at (Ne.symm n21) h1m
          have hf15 : upd H14 d2 (.dK (putK kv2 (Sum.inr n) (V.ref pv))) fa = some (.lst (fr.map V.str)) := upd_at n2f hfm
          have hu15 : upd H14 d2 (.dK (putK kv2 (Sum.inr n) (V.ref pv))) pu = some (.lst (us.map V.str)) := upd_at n2u hum
          have h215 : upd H14 d2 (.dK (putK kv2 (Sum.inr n) (V.ref pv))) d2 = some (.dK (putK kv2 (Sum.inr n) (V.ref pv))) := upd_same
          have t15 : Tu H14 (upd H14 d2 (.dK (putK kv2 (Sum.inr n) (V.ref pv)))) := Tu.set h2m
          refine ⟨⟨_, SqL.of hf15⟩, ?_⟩
          generalize upd H14 d2 (.dK (putK kv2 (Sum.inr n) (V.ref pv))) = H15 at e15 st15 hl15 h115 hf15 hu15 h215 t15
          refine lc_lstP (T := TT) fr (fun v x => v = V.str x) hf15 (Paired.of_fn _) (by omega) (fun x => decide (x ∉ f.names)) (fun _ y x => y = V.str x) (fun _ _ _ _ _ h => h) ?_ ?_
          · intro x v Hq K1 K0 hxm hv eq kk1 kk0
            subst hv
            have huq : Hq pu = some (.lst (us.map V.str)) := eq.at hu15
            have ein : (!inV (V.str x) (us.map V.str)) = decide (x ∉ f.names) := by
              rw [inV_strs, hfn, hil]
              simp
            walk_at "rd"
            refine ite2 (fun hc => ?_) (fun hc => ?_)
            · have hc : (!inV (V.str x) (us.map V.str)) = true := hc
              rw [ein] at hc
              walk_at "rd"
              exact kk1 hc _ _ (Ex.refl _) rfl
            · have hc : ¬ (!inV (V.str x) (us.map V.str)) = true := hc
              rw [ein] at hc
              exact kk0 (by simpa using hc) _ (Ex.refl _)
          · intro D8 ys H16 hD8 e16 hd8 qq
            have ey := Paired.fn (f := V.str) qq
            have lf : (fr.filter fun x => decide (x ∉ f.names)).length ≤ fr.length := List.length_filter_le _ _
            have ly : ys.length ≤ fr.length := by rw [ey, List.length_map]; exact lf
            walk_at "rd"
            rename_i q17 hq17 H17 he17 hq17' fa' hfa' H18 he18 hfa''
            have e158 : Ex TT H15 H18 := by walk_at "up"
            have hfree : ys ++ [V.str n] = (freeBy fr (n, f, 1 + rc)).map V.str := by
              unfold freeBy
              rw [List.map_append, List.map_singleton, ey]
            rw [hfree] at hfa''
            have hfold : (vws ++ [(n, f, 1 + rc)]).foldl freeBy (src.map (·.1)) = freeBy fr (n, f, 1 + rc) := by
              rw [List.foldl_append, hfr]
              rfl
            have st17 : StAt H17 sa sc b0 := by walk_at "up"
            obtain ⟨c15, _, z15⟩ := st15
            have e018 : Ex TT (ms sa H) (ms sa H18) := e15.trans (e158.mask z15 rfl)
            refine ⟨⟨_, fa', _, _, _, putK kv2 (Sum.inr n) (V.ref pv), vws ++ [(n, f, 1 + rc)], rfl, e018, st17.ex' he18, e158.at hl15, e158.at h215, e158.at h115, DctAt.imp hdg fun _ _ y => y.tu (tum.trans (t15.trans e158.tu)), ?_, ?_, ?_, ne_st hfa' st17, by rw [hfold]; exact hfa'', ?_, ?_, ?_, ?_⟩⟩
            · exact DctAt.snoc (DctAt.imp hvg fun _ _ y => y.tu (tum.trans (t15.trans e158.tu))) hnv (hvw.tu (t15.trans e158.tu))
            · rw [List.map_append, hmv, List.take_add_one, hn]
              rfl
            · refine VwsOk.snoc hvo ?_
              rw [hfr]
              exact ⟨hgood, hnk, hfo, by simp only [hfn]; exact ilm, by simp only [hfn]; exact iln, by simp only; omega, by simp only; omega⟩
            · rw [hfold]
              unfold freeBy
              rw [List.length_append, List.length_singleton]
              omega
            · rw [hfold]
              unfold freeBy
              rw [List.length_append, List.length_singleton]
              have := List.length_filter_le (fun x => decide (x ∉ (n, f, 1 + rc).2.1.names)) fr
              omega
            · rw [hfold]
              unfold freeBy
              rw [List.nodup_append]
              refine ⟨hfnd.filter _, List.pairwise_singleton _ _, fun a ha b hb => ?_⟩
              simp at hb
              subst hb
              intro z
              subst z
              exact hnk (hfk _ (List.mem_filter.mp ha).1)
            · rw [hfold]
              intro x hx
              unfold freeBy at hx
              rw [List.map_append]
              rcases List.mem_append.mp hx with hx | hx
              · have := hfk x (List.mem_filter.mp hx).1
                rcases List.mem_append.mp this with h | h
                · exact List.mem_append_left _ h
                · exact List.mem_append_right _ (List.mem_append_left _ h)
              · exact List.mem_append_right _ (List.mem_append_right _ hx)
    · rintro σ Hy ⟨u4, fa, u6, u7, u8, kv2, vws, rfl, ey, hsty, hly, h2y, h1y, hdy, hvy, hmv, hvo, hfane, hfy, hf0, hf5, hfnd, hfk⟩
      rw [hL2, List.take_length] at hmv
      walk_at "rd"
      rename_i t ht H10 he10 ht'
      have lvw : vws.length = vn.length := by rw [← hmv, List.length_map]
      refine k _ ⟨src, vws⟩ _ (by walk_at "up") (by walk_at "up") ⟨t, d1, d2, rfl, ht', ⟨kvs, by walk_at "up", DctAt.imp hdy fun _ _ y => y.tu he10.tu⟩, ⟨kv2, by walk_at "up", DctAt.imp hvy fun _ _ y => y.tu he10.tu⟩⟩ ⟨by simp only; omega, by simp only; omega, hok, ndsrc, hvo⟩
end
end Rf
end

set_option Elab.async false
set_option linter.all false
set_option maxRecDepth 100000
set_option maxHeartbeats 4000000
set_option pp.maxSteps 1500
section
open PySem PySem.Spec PyProof.Rows L2 Rf
local macro_rules | `(tactic| walk_at "up") => `(tactic| first | assumption | exact Ex.refl _ | exact upd_same | (apply upd_at; (focus assumption); walk_at "up") | (apply upd_at'; (focus assumption); walk_at "up") | (apply Ex.mutL; (focus (walk_at "up")); (focus (walk_at "up")); walk_at "up") | (apply Ex.mutD; (focus (walk_at "up")); (focus (walk_at "up")); walk_at "up") | (apply Ex.free'; (focus assumption); walk_at "up") | (apply Ex.atT; (focus assumption); walk_at "up") | (apply Ex.atL; (focus assumption); walk_at "up") | (apply Ex.atD; (focus assumption); walk_at "up") | (apply Ex.atI; (focus assumption); walk_at "up") | (apply Ex.atF; (focus assumption); walk_at "up") | (apply Ex.then'; (focus assumption); walk_at "up") | (apply NetAt.ex; (focus assumption); walk_at "up") | (apply PartsAt.ex; (focus assumption); walk_at "up") | (apply PlanAt.ex; (focus assumption); walk_at "up") | (apply QrsAt.ex; (focus assumption); walk_at "up") | (apply SrcD.ex; (focus assumption); walk_at "up") | (apply VwD.ex; (focus assumption); walk_at "up") | (apply SeqIs.ex; (focus assumption); walk_at "up") | (apply NetAt.ex'; (focus assumption); walk_at "up") | (apply PartsAt.ex'; (focus assumption); walk_at "up") | (apply PlanAt.ex'; (focus assumption); walk_at "up") | (apply QrsAt.ex'; (focus assumption); walk_at "up") | (apply SrcD.ex'; (focus assumption); walk_at "up") | (apply VwD.ex'; (focus assumption); walk_at "up") | (apply SeqIs.ex'; (focus assumption); walk_at "up") | (apply Ex.atT'; (focus assumption); walk_at "up") | (apply Ex.atL'; (focus assumption); walk_at "up") | (apply Ex.atD'; (focus assumption); walk_at "up") | (apply Ex.atI'; (focus assumption); walk_at "up") | (with_reducible apply FrmAt.ex'; (focus assumption); walk_at "up") | (with_reducible apply VwAt.ex'; (focus assumption); walk_at "up") | (with_reducible apply RowAt.ex'; (focus assumption); walk_at "up") | (with_reducible apply SrcAt.ex'; (focus assumption); walk_at "up") | (with_reducible apply QryAt.ex'; (focus assumption); walk_at "up") | (with_reducible apply Rows.ex'; (focus assumption); walk_at "up") | (with_reducible apply StAt.exE; (focus assumption); walk_at "up") | (with_reducible apply sqU; (focus assumption); assumption) | (with_reducible apply sqE; (focus assumption); walk_at "up") | (with_reducible apply sqM; (focus assumption); (focus (walk_at "ne")); walk_at "up") | (with_reducible apply Ex.tabs'; (focus assumption); walk_at "up") | (with_reducible apply Ex.thenM; (focus assumption); (focus (walk_at "up")); walk_at "up") | (with_reducible apply Ex.thenMM; (focus assumption); walk_at "up") | (with_reducible apply atML; (focus assumption); (focus (walk_at "ne")); walk_at "up") | (with_reducible apply atMD; (focus assumption); (focus (walk_at "ne")); walk_at "up") | (with_reducible apply atMT; (focus assumption); (focus (walk_at "ne")); walk_at "up"))
local macro_rules | `(tactic| walk_at "ne") => `(tactic| first | assumption | (apply ne_st; (focus assumption); (walk_at "up")))
local macro_rules | `(tactic| walk_at "sv") => `(tactic| first | rfl | assumption | exact Ex.refl _ | exact ClsV.ty _ | (apply TyX.base; first | exact TyOf.int _ | exact TyOf.str _ | exact TyOf.bl _ | (apply TyOf.tup; walk_at "up") | (apply TyOf.lst; walk_at "up") | (apply TyOf.dK; walk_at "up")) | exact kit_ty (by decide +kernel) | (apply Rd.of; walk_at "up") | (apply DGet_some; (focus (walk_at "up")); assumption) | (apply DGet_f; (focus (walk_at "up")); assumption) | (apply DGet_s; walk_at "up") | (apply DPut_s; (focus (walk_at "up")); omega) | (apply sz5; simp only [List.length_map, List.length_append, List.length_cons, List.length_nil]; omega) | (apply sz4; simp only [List.length_map, List.length_append, List.length_cons, List.length_nil]; omega) | (apply SqL.of; walk_at "up") | (apply SqT.of; walk_at "up") | (apply Or.inl; apply SqL.of; walk_at "up") | (apply Or.inr; apply SqT.of; walk_at "up") | (apply Exists.intro; first | (apply SqL.of; walk_at "up") | (apply SqT.of; walk_at "up")) | exact flatStrs _ | (apply dp_nil; walk_at "up") | (apply dp_strs; walk_at "up") | (apply dp_ints; walk_at "up") | (apply dp_row; walk_at "up") | (apply dp_rowL; walk_at "up") | (apply dp_rows; (focus (walk_at "up")); walk_at "up") | exact shaped_nil | exact shaped_ints | (apply shaped_strs; assumption) | (apply shaped_rows; assumption) | (apply shaped_row; assumption) | (with_reducible apply RowAt.mk; walk_at "up") | (apply tyL; walk_at "up") | (apply tyD; walk_at "up") | (with_reducible apply cmul_r; constructor <;> omega) | (with_reducible apply cmul_l; constructor <;> omega) | (with_reducible apply cdiv_i; constructor <;> omega) | walk_at "up" | (with_reducible apply ne_st; (focus assumption); walk_at "up") | omega | (dsimp only; omega) | decide | (simp only [List.length_map, List.length_append, List.length_cons, List.length_nil]; omega))
local macro_rules | `(tactic| walk_at "cn") => `(tactic| first | assumption | omega | (dsimp only; omega) | (simp only [List.length_map, List.length_append, List.length_cons, List.length_nil, List.length_reverse]; omega) | decide)
local macro_rules | `(tactic| walk_at "rd") => `(tactic| first
  | (with_reducible show LcGo _ _ _ _ _ _ _ _)
  | (with_reducible show DcGo _ _ _ _ _ _ _ _ _)
  | (with_reducible show ForGo _ _ _ _ _ _)
  | (refine allocI (fun p hp => ?_); generalize hh : upd _ _ _ = H2; have e := exNew (T := ‹Tb›) hh hp; have h := updAt hh; clear hh; walk_at "rd")
  | (apply And.intro; (focus (walk_at "sv")); walk_at "rd")
  | (apply Exists.intro; walk_at "rd")
  | (refine iteY ?_ ?_; (focus (walk_at "cn")); walk_at "rd")
  | (refine iteN ?_ ?_; (focus (walk_at "cn")); walk_at "rd")
  | (refine iteY' ?_ ?_; (focus (walk_at "cn")); walk_at "rd")
  | (refine iteN' ?_ ?_; (focus (walk_at "cn")); walk_at "rd")
  | (refine iteBt ?_ ?_; (focus (first | assumption | decide +kernel)); walk_at "rd")
  | (refine iteBf ?_ ?_; (focus (first | assumption | decide +kernel)); walk_at "rd")
  | (intro _; walk_at "rd") | skip)
namespace Rf
open NdefX LamX
section
variable {P : Program} {w : World} {K : PySem.W.Frag} {mg : Str → Option Value} {base : Heap} {C : Addr} (TT : Tb)
/-- what stands behind the drawing -/
structure OneAt (C : Addr) (TT : Tb) (H : Hp) (v nv : V) (pa qa : Addr) (N : Net) (h : Int) (pl : Plan) (qs : List Query) (xs xs2 : List V) : Prop where
  hP : PartsAt H v N
  ok : NetOk N
  hN : NetAt C H nv N
  tb : LamX.Tabs TT H
  hp : H pa = some (.lst xs)
  hx : Rows H xs pl
  hq : H qa = some (.lst xs2)
  hx2 : Paired (QryAt H) xs2 qs
  ao : AskOk N h pl qs
theorem OneAt.ex {TT : Tb} {C : Addr} {H H' : Hp} {v nv : V} {pa qa : Addr} {N : Net} {h : Int} {pl : Plan} {qs : List Query} {xs xs2 : List V} (o : OneAt C TT H v nv pa qa N h pl qs xs xs2) (e : Ex TT H H') : OneAt C TT H' v nv pa qa N h pl qs xs xs2 :=
  ⟨o.hP.ex e, o.ok, o.hN.ex e, e.tb o.tb, e.at o.hp, Rows.tu e.tu o.hx, e.at o.hq, Paired.imp o.hx2 fun _ _ z => z.tu e.tu, o.ao⟩
abbrev oneX (P : Program) (w : World) (K : PySem.W.Frag) (mg : Str → Option Value) (base : Heap) (fa c : Addr) (A : Around) (outer : List Env) (s : Shared) (H0 : Hp) (E0 : XK) : Cx := (cxOf C8.CX0 P w K mg base N_l_one_right "_law_one_right" (C8.fnScope s_l_one_right) fa (.ref c) A outer s H0 E0).nox
theorem trimL_mem {N : Net} {pl : Plan} {qs : List Query} {x : Int × Str} (h : x ∈ trimL N pl qs) : x ∈ pl := by
  have all : ∀ (l : Plan) (f : Plan), x ∈ l.foldl (trimStep N qs) f → x ∈ f := by
    intro l
    induction l with
    | nil => intro f h; exact h
    | cons a r ih => intro f h; exact trim_sub x (ih _ h)
  exact all _ _ h
theorem delayL_mem {N : Net} {h : Int} {pl : Plan} {qs : List Query} (hn : ∀ r ∈ pl, r.2 ∈ N.names) : ∀ r ∈ delayL N h pl qs, r.2 ∈ N.names := by
  have all : ∀ (l : Plan) (f : Plan), (∀ r ∈ l, r.2 ∈ N.names) → (∀ r ∈ f, r.2 ∈ N.names) → ∀ r ∈ l.foldl (delayStep N h qs) f, r.2 ∈ N.names := by
    intro l
    induction l with
    | nil => intro f _ hf; exact hf
    | cons a l ih =>
      intro f hl hf
      refine ih _ (fun r hr => hl r (List.mem_cons_of_mem _ hr)) ?_
      unfold delayStep
      split
      · exact moved_mem hf (hl a List.mem_cons_self)
      · exact hf
  exact all _ _ (fun r hr => hn r (List.mem_reverse.mp hr)) hn
theorem one_c {fa c : Addr} {A : Around} {outer : List Env} {s : Shared} {H0 : Hp} {E0 : XK} (T : Tx K mg C) (hr : Room 13 (A.deeper (envOfC "_law_one_right" (C8.fnScope s_l_one_right) s.heap.objs.size fa (.ref c)))) (c_l_worst : C8.Cal P w K mg base 10 "_law_worst" (sp_l_worst TT) []) (c_l_enough : C8.Cal P w K mg base 11 "_law_enough" (sp_l_enough TT) [])
    (c_slacks : C8.Cal P w K mg base 11 "slacks" (sp_slacks (C := C) TT) []) (c_redundant : C8.Cal P w K mg base 11 "redundant" (sp_redundant (C := C) TT) []) (c_trimmed : C8.Cal P w K mg base 11 "trimmed" (sp_trimmed (C := C) TT) []) (c_delayed : C8.Cal P w K mg base 11 "delayed" (sp_delayed (C := C) TT) [])
    (c_l_trimmed : C8.Cal P w K mg base 12 "_law_trimmed" (sp_l_trimmed TT) []) (c_l_delayed : C8.Cal P w K mg base 12 "_law_delayed" (sp_l_delayed TT) []) :
    ∃ t, PSs (oneX P w K mg base fa c A outer s H0 E0) ((C8.fnBody s_l_one_right).drop 9) t ∧ ∀ (D : Ends) (H : Hp) (v nv : V) (pa qa sa : Addr) (N : Net) (h : Int) (pl : Plan) (qs : List Query) (xs xs2 : List V) (u6 u7 u8 u9 u10 u11 u12 u13 u14 u15 u16 u17 : Option V), OneAt C TT H v nv pa qa N h pl qs xs xs2 → N.enough pl qs = true →
      (∀ H', Ex TT H H' → D.rt (.bl true) H') → t D [some (.ref sa), some v, some (.int h), some nv, some (.ref pa), some (.ref qa), u6, u7, u8, u9, u10, u11, u12, u13, u14, u15, u16, u17] H := by
  have nd := sc_l_one_right.nd
  have hu := hu_of hr
  refine ⟨_, (pss_cons (slcX (ps_setLc (i := 9) (g := (gName 16)) rfl nd rfl rfl (sw_true rfl rfl rfl (by decide +kernel)) (pi_list (pv 5)) (blkOk_by (own := [("_law_query_here", 16)]) (N := N_l_one_right) (sc := C8.fnScope s_l_one_right) (by decide +kernel)) (fun _ _ _ _ _ => (pg_name (i := 16) nd rfl (Or.inl rfl) (by first | exact Or.inr rfl | exact Or.inl rfl))) (fun _ _ _ _ _ => pts_nil) (fun _ _ _ _ _ => (pe_op op_sub (pe_ix (ix_tupK (K := K)) (pv 16) pe_int (fun _ _ => rfl)) (C8.pe_c c_l_worst hr (by first | decide | omega) (by rfl) (pa_cons (pv 1) (pa_cons (pv 4) (pa_cons (pv 16) pa_nil))))))))
      (pss_cons (ps_if (pt_cmpR (op_neD hr.units) (C8.pe_c c_slacks hr (by first | decide | omega) (by rfl) (pa_cons (pv 3) (pa_cons (pv 2) (pa_cons (pv 4) (pa_cons (pv 5) pa_nil))))) (pv 9) (nomark _)) (pss_one (ps_ret pe_bl)) pss_nil)
      (pss_cons (ps_set (i := 10) nd rfl (Or.inl rfl) (pe_lst pa_nil))
      (pss_cons (forX (ps_for PassesOwn.never rfl (pi_list (pv 4)) (pg_name (i := 11) nd rfl (Or.inr rfl) (by first | exact Or.inr rfl | exact Or.inl rfl))
      (pss_one (ps_if (pt_val (C8.pe_c c_l_enough hr (by first | decide | omega) (by rfl) (pa_cons (pv 1) (pa_cons (lcX (pe_lc (g := (gName 17)) rfl nd (pi_list (pv 4)) (blkOk_by (own := [("_law_one", 17)]) (N := N_l_one_right) (sc := C8.fnScope s_l_one_right) (by decide +kernel)) (fun _ _ _ _ _ => (pg_name (i := 17) nd rfl (Or.inl rfl) (by first | exact Or.inr rfl | exact Or.inl rfl))) (fun _ _ _ _ _ => pts_one (pt_cmpR (op_neDK (K := K) hr.units) (pv 17) (pv 11) (nomark _))) (fun _ _ _ _ _ => (pv 17)))) (pa_cons (pv 5) pa_nil))))) (pss_one (ps_expr (pe_bm PySem.F.plainAttrs_list PySem.F.slot_list_append PySem.F.type_list_append mt_append (pv 10) (pa_cons (pv 11) pa_nil)))) pss_nil))))
      (pss_cons (ps_if (pt_cmpR (op_neD hr.units) (C8.pe_c c_redundant hr (by first | decide | omega) (by rfl) (pa_cons (pv 3) (pa_cons (pv 2) (pa_cons (pv 4) (pa_cons (pv 5) pa_nil))))) (pv 10) (nomark _)) (pss_one (ps_ret pe_bl)) pss_nil)
      (pss_cons (ps_if (pt_cmpR (op_neD hr.units) (C8.pe_c c_trimmed hr (by first | decide | omega) (by rfl) (pa_cons (pv 3) (pa_cons (pv 2) (pa_cons (pe_callTy call_tuple_of (by rfl) T.n_tuple (by decide +kernel) (pa_cons (pv 4) pa_nil)) (pa_cons (pv 5) pa_nil))))) (C8.pe_c c_l_trimmed hr (by first | decide | omega) (by rfl) (pa_cons (pv 1) (pa_cons (pv 4) (pa_cons (pv 5) pa_nil)))) (nomark _)) (pss_one (ps_ret pe_bl)) pss_nil)
      (pss_one (ps_ret (pe_cmpR (op_eqD hr.units) (C8.pe_c c_delayed hr (by first | decide | omega) (by rfl) (pa_cons (pv 3) (pa_cons (pv 2) (pa_cons (pe_callTy call_tuple_of (by rfl) T.n_tuple (by decide +kernel) (pa_cons (pv 4) pa_nil)) (pa_cons (pv 5) pa_nil))))) (C8.pe_c c_l_delayed hr (by first | decide | omega) (by rfl) (pa_cons (pv 1) (pa_cons (pv 2) (pa_cons (pv 4) (pa_cons (pv 5) pa_nil))))) (nomark _)))))))))), ?_⟩
  intro D H v nv pa qa sa N h pl qs xs xs2 u6 u7 u8 u9 u10 u11 u12 u13 u14 u15 u16 u17 o en k
  obtain ⟨hP, ok, hN, hTab, hp, hx, hq, hx2, ao⟩ := id o
  have l1 := ao.po.len
  have l2 := ao.q2
  have lx := Paired.length hx
  have hpn : ∀ r ∈ pl, r.2 ∈ N.names := fun r hr => (ao.po.el r hr).2.2
  have hqn : ∀ q ∈ qs, q.2.1 ∈ N.names := fun q hq => (ao.qk q hq).2.2.1
  have hcan : ∀ x ∈ pl, PyData.canLay0 (.str x.2) = true := fun x hx => (ok.good _ (hpn x hx)).ok
  have hPl : PlanAt H (.ref pa) pl := ⟨pa, xs, rfl, .inl hp, hx⟩
  have hQs : QrsAt H (.ref qa) qs := ⟨qa, xs2, rfl, .inl hq, hx2⟩
  walk_at "rd"
  refine lc_lstP (T := TT) qs (QryAt H) hq hx2 (by omega) (fun _ => true) (fun _ y q => y = V.int (q.2.2 - N.worst pl q)) (fun _ _ _ _ _ h => h) ?_ ?_
  · intro q x Hc K1 K0 hm hv e k1 k0
    have hqq : QryAt Hc x q := by walk_at "up"
    have hqm := hqn q hm
    have lp : pl.length ≤ 1000 := by omega
    obtain ⟨qd, rfl, hqa⟩ := id hqq
    walk_at "rd"
    exact k1 rfl _ _ (by walk_at "up") rfl
  · intro Dl ys H2 hD e2 hd qq
    rw [filt_true] at qq
    have eq := ints_of (f := fun q : Query => q.2.2 - N.worst pl q) qq
    rw [eq] at hd
    have hd : H2 Dl = some (.lst ((slackL N pl qs).map V.int)) := hd
    have eqs : (!PyData.eqv (.list ((slackL N pl qs).map PyData.int)) (.list ((slackL N pl qs).map PyData.int))) = false := by rw [eqv_ints]; simp
    walk_at "rd"
    rename_i d3 H3 e3 hd3 hd3' d4 hd4 H4 e4 hd4'
    refine for_goB (walk_list (K := K) (a := pa) (xs := xs)) (fun i σ Hc => ∃ u11 ys, σ = [some (.ref sa), some v, some (.int h), some nv, some (.ref pa), some (.ref qa), u6, u7, u8, some (.ref Dl), some (.ref d4), u11, u12, u13, u14, u15, u16, u17] ∧ Ex TT H3 Hc ∧ Hc d4 = some (.lst ys) ∧ ys.length ≤ i ∧ Rows Hc ys ((pl.take i).filter fun r => N.enough (dropR pl r) qs))
      ⟨_, [], rfl, by walk_at "up", hd4', Nat.le_refl _, by rw [List.take_zero]; exact .nil⟩ (fun i σ Hc hi ⟨_, _, _, ex, _⟩ => SqL.of (ex.at (show H3 pa = some (.lst xs) by walk_at "up"))) ?_ ?_
    · intro i y σ Hc Hc' hi ⟨u11, ys, es, ec, hys, lys, hrs⟩ yy
      subst es
      obtain ⟨rfl, hy⟩ := yy
      rw [lx] at hi
      obtain ⟨r, hrr⟩ : ∃ b, pl[i]? = some b := ⟨pl[i], List.getElem?_eq_getElem _⟩
      obtain ⟨y', hy', hrow⟩ := Paired.at hx hrr
      rw [hy'] at hy
      cases hy
      have hrm := List.mem_of_getElem? hrr
      have hcr := hcan r hrm
      have hrow' : RowAt Hc' y r := by walk_at "up"
      have hpc : Hc' pa = some (.lst xs) := by walk_at "up"
      have hxc : Rows Hc' xs pl := by walk_at "up"
      have tk1 : ((pl.take (i + 1)).filter fun r => N.enough (dropR pl r) qs) = ((pl.take i).filter fun r => N.enough (dropR pl r) qs) ++ (if N.enough (dropR pl r) qs = true then [r] else []) := take_succ_filter _ hrr
      walk_at "rd"
      refine lc_lstP (T := TT) pl (RowAt Hc') hpc hxc (by omega) (fun x => decide (x ≠ r)) (fun H' y x => RowAt H' y x) (fun y b Ha Hb t h => h.tu t) ?_ ?_
      · intro b x Hy K1 K0 hm hv e kk1 kk0
        have hb' : RowAt Hy x b := by walk_at "up"
        have hr' : RowAt Hy y r := by walk_at "up"
        have hcb := hcan b hm
        walk_at "rd"
        have ev : (!PyData.eqv (rowD b) (rowD r)) = decide (b ≠ r) := by rw [eqv_row]; simp
        refine ite2 (fun hc => ?_) (fun hc => ?_)
        · have hc : (!PyData.eqv (rowD b) (rowD r)) = true := hc
          rw [ev] at hc
          walk_at "rd"
          exact kk1 hc _ _ (by walk_at "up") (by walk_at "up")
        · have hc : ¬ (!PyData.eqv (rowD b) (rowD r)) = true := hc
          rw [ev] at hc
          exact kk0 (by simpa using hc) _ (by walk_at "up")
      · intro dd1 ys1 H5 hd1 he5 hd1' hR1
        have hR1 : Rows H5 ys1 (dropR pl r) := hR1
        have ly2 := dropR_len pl r
        have hnm : ∀ x ∈ dropR pl r, x.2 ∈ N.names := fun x hx => hpn x (dropR_mem hx)
        have hqry : Paired (QryAt H5) xs2 qs := Paired.imp hx2 fun _ _ z => z.tu (show Ex TT H H5 by walk_at "up").tu
        have ln : (dropR pl r).length ≤ 1000 := by omega
        have lsz : ys.length < sizeLine := sz4 (by omega)
        walk_at "rd"
        rename_i H6 e6
        refine ite2 (fun hc => ?_) (fun hc => ?_)
        · have hys6 : H6 d4 = some (.lst ys) := by walk_at "up"
          walk_at "rd"
          refine ⟨⟨_, ys ++ [y], rfl, ?_, upd_same, by rw [List.length_append, List.length_singleton]; omega, ?_⟩⟩
          · walk_at "up"
          · rw [tk1, if_pos hc]
            refine Paired.appendP (Paired.imp hrs fun _ _ z => z.tu (Tu.trans (show Ex TT Hc' H6 by walk_at "up").tu (Tu.set hys6))) (.cons (hrow'.tu (Tu.trans (show Ex TT Hc' H6 by walk_at "up").tu (Tu.set hys6))) .nil)
        · walk_at "rd"
          refine ⟨⟨_, ys, rfl, by walk_at "up", by walk_at "up", by omega, ?_⟩⟩
          rw [tk1, if_neg hc, List.append_nil]
          walk_at "up"
    · rintro σ Hc ⟨u11, ys, rfl, ec, hys, lys, hrs⟩
      rw [lx, List.take_length] at hrs
      have hrs : Rows Hc ys (redunL N pl qs) := hrs
      have hcanR : ∀ r ∈ redunL N pl qs, PyData.canLay0 (.str r.2) = true := fun r hr => hcan r (List.mem_filter.mp hr).1
      have eqr : (!PyData.eqv (.list ((redunL N pl qs).map rowD)) (.list ((redunL N pl qs).map rowD))) = false := by rw [eqv_rows]; simp
      walk_at "rd"
      rename_i d5 ys5 H5 e5 hd5 hd5' hR5
      refine .inl ⟨SqL.of (show H5 pa = some (.lst xs) by walk_at "up"), ?_⟩
      have eqt : (!PyData.eqv (.list ((trimL N pl qs).map rowD)) (.list ((trimL N pl qs).map rowD))) = false := by rw [eqv_rows]; simp
      have hcanT : ∀ r ∈ trimL N pl qs, PyData.canLay0 (.str r.2) = true := fun r hr => hcan r (trimL_mem hr)
      walk_at "rd"
      rename_i q6 hq6 H6 e6 hq6' d7 ys7 H7 e7 hd7 hd7' hR7
      refine ⟨Paired.imp hx2 fun _ _ z => z.tu (show Ex TT H H7 by walk_at "up").tu, ?_⟩
      have eqd : PyData.eqv (.list ((delayL N h pl qs).map rowD)) (.list ((delayL N h pl qs).map rowD)) = true := by rw [eqv_rows]; simp
      walk_at "rd"
      rename_i d8 ys8 H8 e8 hd8 hd8' hR8
      refine .inl ⟨SqL.of (show H8 pa = some (.lst xs) by walk_at "up"), ?_⟩
      have hel : ∀ r ∈ pl, 1 ≤ r.1 ∧ r.1 ≤ h ∧ r.2 ∈ N.names := fun r hr => ao.po.el r hr
      have h12 := ao.h1
      have hcanD : ∀ r ∈ delayL N h pl qs, PyData.canLay0 (.str r.2) = true := fun r hr => (ok.good _ (delayL_mem hpn r hr)).ok
      walk_at "rd"
      rename_i q9 hq9 H9 e9 hq9' da ysa Ha ea hda hda' hRa
      refine ⟨Paired.imp hx2 fun _ _ z => z.tu (show Ex TT H Ha by walk_at "up").tu, ?_⟩
      walk_at "rd"
      rw [eqd]
      exact k _ (by walk_at "up")
end
end Rf
end

set_option Elab.async false
set_option linter.all false
set_option maxRecDepth 100000
set_option maxHeartbeats 4000000
set_option pp.maxSteps 1500
section
open PySem PySem.Spec PyProof.Rows L2 Rf
local macro_rules | `(tactic| walk_at "up") => `(tactic| first | assumption | exact Ex.refl _ | exact upd_same | (apply upd_at; (focus assumption); walk_at "up") | (apply upd_at'; (focus assumption); walk_at "up") | (apply Ex.mutL; (focus (walk_at "up")); (focus (walk_at "up")); walk_at "up") | (apply Ex.mutD; (focus (walk_at "up")); (focus (walk_at "up")); walk_at "up") | (apply Ex.free'; (focus assumption); walk_at "up") | (apply Ex.atT; (focus assumption); walk_at "up") | (apply Ex.atL; (focus assumption); walk_at "up") | (apply Ex.atD; (focus assumption); walk_at "up") | (apply Ex.atI; (focus assumption); walk_at "up") | (apply Ex.atF; (focus assumption); walk_at "up") | (apply Ex.then'; (focus assumption); walk_at "up") | (apply NetAt.ex; (focus assumption); walk_at "up") | (apply PartsAt.ex; (focus assumption); walk_at "up") | (apply PlanAt.ex; (focus assumption); walk_at "up") | (apply QrsAt.ex; (focus assumption); walk_at "up") | (apply SrcD.ex; (focus assumption); walk_at "up") | (apply VwD.ex; (focus assumption); walk_at "up") | (apply SeqIs.ex; (focus assumption); walk_at "up") | (apply NetAt.ex'; (focus assumption); walk_at "up") | (apply PartsAt.ex'; (focus assumption); walk_at "up") | (apply PlanAt.ex'; (focus assumption); walk_at "up") | (apply QrsAt.ex'; (focus assumption); walk_at "up") | (apply SrcD.ex'; (focus assumption); walk_at "up") | (apply VwD.ex'; (focus assumption); walk_at "up") | (apply SeqIs.ex'; (focus assumption); walk_at "up") | (apply Ex.atT'; (focus assumption); walk_at "up") | (apply Ex.atL'; (focus assumption); walk_at "up") | (apply Ex.atD'; (focus assumption); walk_at "up") | (apply Ex.atI'; (focus assumption); walk_at "up") | (with_reducible apply FrmAt.ex'; (focus assumption); walk_at "up") | (with_reducible apply VwAt.ex'; (focus assumption); walk_at "up") | (with_reducible apply RowAt.ex'; (focus assumption); walk_at "up") | (with_reducible apply SrcAt.ex'; (focus assumption); walk_at "up") | (with_reducible apply QryAt.ex'; (focus assumption); walk_at "up") | (with_reducible apply Rows.ex'; (focus assumption); walk_at "up") | (with_reducible apply StAt.exE; (focus assumption); walk_at "up") | (with_reducible apply sqU; (focus assumption); assumption) | (with_reducible apply sqE; (focus assumption); walk_at "up") | (with_reducible apply sqM; (focus assumption); (focus (walk_at "ne")); walk_at "up") | (with_reducible apply Ex.tabs'; (focus assumption); walk_at "up") | (with_reducible apply Ex.thenM; (focus assumption); (focus (walk_at "up")); walk_at "up") | (with_reducible apply Ex.thenMM; (focus assumption); walk_at "up") | (with_reducible apply atML; (focus assumption); (focus (walk_at "ne")); walk_at "up") | (with_reducible apply atMD; (focus assumption); (focus (walk_at "ne")); walk_at "up") | (with_reducible apply atMT; (focus assumption); (focus (walk_at "ne")); walk_at "up"))
local macro_rules | `(tactic| walk_at "ne") => `(tactic| first | assumption | (apply ne_st; (focus assumption); (walk_at "up")))
local macro_rules | `(tactic| walk_at "sv") => `(tactic| first | rfl | assumption | exact Ex.refl _ | exact ClsV.ty _ | (apply TyX.base; first | exact TyOf.int _ | exact TyOf.str _ | exact TyOf.bl _ | (apply TyOf.tup; walk_at "up") | (apply TyOf.lst; walk_at "up") | (apply TyOf.dK; walk_at "up")) | exact kit_ty (by decide +kernel) | (apply Rd.of; walk_at "up") | (apply DGet_some; (focus (walk_at "up")); assumption) | (apply DGet_f; (focus (walk_at "up")); assumption) | (apply DGet_s; walk_at "up") | (apply DPut_s; (focus (walk_at "up")); omega) | (apply sz5; simp only [List.length_map, List.length_append, List.length_cons, List.length_nil]; omega) | (apply sz4; simp only [List.length_map, List.length_append, List.length_cons, List.length_nil]; omega) | (apply SqL.of; walk_at "up") | (apply SqT.of; walk_at "up") | (apply Or.inl; apply SqL.of; walk_at "up") | (apply Or.inr; apply SqT.of; walk_at "up") | (apply Exists.intro; first | (apply SqL.of; walk_at "up") | (apply SqT.of; walk_at "up")) | exact flatStrs _ | (apply dp_nil; walk_at "up") | (apply dp_strs; walk_at "up") | (apply dp_ints; walk_at "up") | (apply dp_row; walk_at "up") | (apply dp_rowL; walk_at "up") | (apply dp_rows; (focus (walk_at "up")); walk_at "up") | exact shaped_nil | exact shaped_ints | (apply shaped_strs; assumption) | (apply shaped_rows; assumption) | (apply shaped_row; assumption) | (with_reducible apply RowAt.mk; walk_at "up") | (apply tyL; walk_at "up") | (apply tyD; walk_at "up") | (with_reducible apply cmul_r; constructor <;> omega) | (with_reducible apply cmul_l; constructor <;> omega) | (with_reducible apply cdiv_i; constructor <;> omega) | walk_at "up" | (with_reducible apply ne_st; (focus assumption); walk_at "up") | omega | (dsimp only; omega) | decide | (simp only [List.length_map, List.length_append, List.length_cons, List.length_nil]; omega))
local macro_rules | `(tactic| walk_at "cn") => `(tactic| first | assumption | omega | (dsimp only; omega) | (simp only [List.length_map, List.length_append, List.length_cons, List.length_nil, List.length_reverse]; omega) | decide)
local macro_rules | `(tactic| walk_at "rd") => `(tactic| first
  | (with_reducible show LcGo _ _ _ _ _ _ _ _)
  | (with_reducible show DcGo _ _ _ _ _ _ _ _ _)
  | (with_reducible show ForGo _ _ _ _ _ _)
  | (refine allocI (fun p hp => ?_); generalize hh : upd _ _ _ = H2; have e := exNew (T := ‹Tb›) hh hp; have h := updAt hh; clear hh; walk_at "rd")
  | (apply And.intro; (focus (walk_at "sv")); walk_at "rd")
  | (apply Exists.intro; walk_at "rd")
  | (refine iteY ?_ ?_; (focus (walk_at "cn")); walk_at "rd")
  | (refine iteN ?_ ?_; (focus (walk_at "cn")); walk_at "rd")
  | (refine iteY' ?_ ?_; (focus (walk_at "cn")); walk_at "rd")
  | (refine iteN' ?_ ?_; (focus (walk_at "cn")); walk_at "rd")
  | (refine iteBt ?_ ?_; (focus (first | assumption | decide +kernel)); walk_at "rd")
  | (refine iteBf ?_ ?_; (focus (first | assumption | decide +kernel)); walk_at "rd")
  | (intro _; walk_at "rd") | skip)
namespace Rf
open NdefX LamX
theorem pe_lcIX {X : Cx} {elt tg iter : Expr} {scope : Scope} {own : List (Str × Nat)} {pos : Pos} {wi : TI} {g : TG} {te : L2.St → TE} (hc : X.calm = true) (hN : X.N.Nodup) (hi : PI X tg iter wi) (ok : BlkOk X.N X.env.scope scope own)
    (hg : ∀ (s : Shared) (H : Hp) (C : Addr) (cl : List (Str × Addr)) (fp : List Addr), PG (X.blk s H scope (compEnvC scope cl C X.env) fp) tg g)
    (he : ∀ (pins : List (Addr × Obj)) (σ : L2.St) (s : Shared) (H : Hp) (C : Addr) (cl : List (Str × Addr)) (fp : List Addr), Inv X pins σ H s → (∀ b ∈ fp, FpOk X pins H b) → PE (X.blk s H scope (compEnvC scope cl C X.env) fp) elt (te σ))
    (hs : ∀ x, foldedSetIterable iter X.env x = pure x := by intro _; rfl) :
    PE X (.ListComp elt [⟨tg, iter, [], 0⟩] scope pos) (fun σ H Q => tLcX wi g tYes (te σ) (own.map (·.2)) σ H Q) := pe_lcI hc hN hi ok hg he hs
section
variable {P : Program} {w : World} {K : PySem.W.Frag} {mg : Str → Option Value} {base : Heap} {C NS : Addr} (TT : Tb)
/-- one of the lambdas, made in the def: what it promises -/
theorem ask_lok {x : Str} {params : Arguments} {scope : Scope} {p p1 p2 p3 p4 p5 : Pos} {q : Str} {cells : List (Str × Addr)} {c' f : Addr} (c : CalX P w K mg base 11 x (sp_no (C := C) (NS := NS) TT)) (S : NScope askN [] askN scope) (hg : scope.names.lookup x = some .globalImplicit) (hdb : (x == ("__debug__" : Str)) = false)
    (hbind : ∀ (pm cv ctv : Value), bindArgs (PySem.W.kla_fn "<lambda>" (q ++ "<lambda>") params (.Call (.Name x p) [.Name "_law_network_here" p1, .Name "_law_horizon" p2, .Name "_law_plan_here" p3, .Name "_law_queries" p4] [] p5) scope (cloFrom cells scope.names []) pm cv ctv) ⟨[], []⟩ = pure []) :
    LOk P w K mg base (L2.CX P w) 12 f (LF q cells params scope c') (.Call (.Name x p) [.Name "_law_network_here" p1, .Name "_law_horizon" p2, .Name "_law_plan_here" p3, .Name "_law_queries" p4] [] p5) [] askN (sp_ask (C := C) (NS := NS) TT) := by
  refine lok_of (N := askN) S (fun pm ctv us hl => ?_) fun A outer s H vs ws Q E hr hl h => ?_
  · obtain rfl := List.length_eq_zero_iff.mp hl
    exact hbind pm _ ctv
  · obtain ⟨rfl, v1, v2, v3, v4, rfl, hno⟩ := h
    have vis : ∀ y ∈ askN, Vis scope y := fun y hy => .inr (.inr (S.frk y hy))
    refine ⟨_, pe_x (E := E) c hr (by decide) (takes_of (E := E) rfl rfl rfl rfl) (fun _ _ _ _ h => h) hg (pa_cons (pe_var (i := 0) rfl (vis _ (by decide))) (pa_cons (pe_var (i := 1) rfl (vis _ (by decide))) (pa_cons (pe_var (i := 2) rfl (vis _ (by decide))) (pa_cons (pe_var (i := 3) rfl (vis _ (by decide))) pa_nil)))) hdb, ?_⟩
    exact ⟨v1, rfl, v2, rfl, v3, rfl, v4, rfl, hno⟩
theorem one_b {fa c Pt : Addr} {A : Around} {outer : List Env} {s : Shared} {H0 : Hp} {E0 : XK} (T : Tx K mg C) (Z : Nx K mg NS) (hr : Room 13 (A.deeper (envOfC "_law_one_right" (C8.fnScope s_l_one_right) s.heap.objs.size fa (.ref c)))) (TB : TabB base mg c Pt) (hmT : (Pt, ("_law_one_right" : Str) ++ (".<locals>." : Str) ++ ("<lambda>" : Str)) ∈ TT)
    (hu : ∀ p ∈ TT, p.1 = Pt → p.2 = ("_law_one_right" : Str) ++ (".<locals>." : Str) ++ ("<lambda>" : Str)) (Dr : DefB K mg "_law_refused" s_l_refused ["_law_ask"]) (x_slacks : CalX P w K mg base 11 "slacks" (sp_no (C := C) (NS := NS) TT)) (x_redundant : CalX P w K mg base 11 "redundant" (sp_no (C := C) (NS := NS) TT))
    (x_trimmed : CalX P w K mg base 11 "trimmed" (sp_no (C := C) (NS := NS) TT)) (x_delayed : CalX P w K mg base 11 "delayed" (sp_no (C := C) (NS := NS) TT)) {u : TS} (hrest : PSs (oneX P w K mg base fa c A outer s H0 E0) ((C8.fnBody s_l_one_right).drop 9) u) :
    ∃ t, PSs (oneX P w K mg base fa c A outer s H0 E0) ((C8.fnBody s_l_one_right).drop 8) t ∧ ∀ (D : Ends) (H : Hp) (v nv : V) (pa qa sa : Addr) (N : Net) (h : Int) (pl : Plan) (qs : List Query) (xs xs2 : List V) (u6 u8 u9 u10 u11 u12 u13 u14 u15 u16 u17 : Option V), OneAt C TT H v nv pa qa N h pl qs xs xs2 →
      ((N.enough pl qs = false ∧ ∀ H', Ex TT H H' → D.rt (.bl true) H') ∨ (N.enough pl qs = true ∧ u D [some (.ref sa), some v, some (.int h), some nv, some (.ref pa), some (.ref qa), u6, some (.bl (N.enough pl qs)), u8, u9, u10, u11, u12, u13, u14, u15, u16, u17] H)) →
      t D [some (.ref sa), some v, some (.int h), some nv, some (.ref pa), some (.ref qa), u6, some (.bl (N.enough pl qs)), u8, u9, u10, u11, u12, u13, u14, u15, u16, u17] H := by
  have nd := sc_l_one_right.nd
  refine ⟨_, pss_cons (ps_if (pt_not (pt_val (pv 7)))
    (pss_cons (ps_set (i := 8) nd rfl (Or.inl rfl) (pe_lst (pa_cons (pe_lam3 (fr := askN) TB rfl hmT hu (by rfl) (by show ndefB (C8.fnScope s_l_one_right) _ _ = true; decide +kernel)) pa_nil)))
    (pss_cons (ps_set (i := 8) nd rfl (Or.inl rfl) (pe_op op_cat (pv 8) (pe_lst (pa_cons (pe_lam3 (fr := askN) TB rfl hmT hu (by rfl) (by show ndefB (C8.fnScope s_l_one_right) _ _ = true; decide +kernel)) pa_nil))))
    (pss_cons (ps_set (i := 8) nd rfl (Or.inl rfl) (pe_op op_cat (pv 8) (pe_lst (pa_cons (pe_lam3 (fr := askN) TB rfl hmT hu (by rfl) (by show ndefB (C8.fnScope s_l_one_right) _ _ = true; decide +kernel)) pa_nil))))
    (pss_cons (ps_set (i := 8) nd rfl (Or.inl rfl) (pe_op op_cat (pv 8) (pe_lst (pa_cons (pe_lam3 (fr := askN) TB rfl hmT hu (by rfl) (by show ndefB (C8.fnScope s_l_one_right) _ _ = true; decide +kernel)) pa_nil))))
    (pss_one (ps_ret (pe_callB (cr_all rfl) (by rfl) T.n_all (by decide +kernel) (pa_cons (pe_lcIX (g := (gName 15)) rfl nd (pi_list (pv 8)) (blkOk_by (own := [("_law_ask", 15)]) (N := N_l_one_right) (sc := C8.fnScope s_l_one_right) (by decide +kernel))
      (fun _ _ _ _ _ => (pg_name (i := 15) nd rfl (Or.inl rfl) (by first | exact Or.inr rfl | exact Or.inl rfl)))
      (fun pins σ s H CC cl fp I hf => pe_refused (C := C) (TT := TT) (js := [3, 2, 4, 5]) (i := 15) Z Dr I hf hr (by rfl) (Or.inl rfl) (by rfl))) pa_nil)))))))) pss_nil) hrest, ?_⟩
  intro D H v nv pa qa sa N h pl qs xs xs2 u6 u8 u9 u10 u11 u12 u13 u14 u15 u16 u17 o hor
  rcases hor with ⟨en, k⟩ | ⟨en, hgo⟩
  rotate_left
  · have en' : (!N.enough pl qs) = false := by rw [en] <;> rfl
    walk_at "rd"
    exact hgo
  have en' : (!N.enough pl qs) = true := by rw [en] <;> rfl
  obtain ⟨hP, ok, hN, hTab, hp, hx, hq, hx2, ao⟩ := id o
  walk_at "rd"
  rename_i f1 c1 G1 ex1 tb1 hf10 hf1 hc1 p1 hp1 H1 e1 h1 f2 c2 G2 ex2 tb2 hf20 hf2 hc2 p2 hp2 H2 e2 h2 p3 hp3 H3 e3 h3 f3 c3 G3 ex3 tb3 hf30 hf3 hc3 p4 hp4 H4 e4 h4 p5 hp5 H5 e5 h5 f4 c4 G4 ex4 tb4 hf40 hf4 hc4 p6 hp6 H6 e6 h6 p7 hp7 H7 e7 h7
  have hPl : PlanAt H (.ref pa) pl := ⟨pa, xs, rfl, .inl hp, hx⟩
  have hQs : QrsAt H (.ref qa) qs := ⟨qa, xs2, rfl, .inl hq, hx2⟩
  have g7 : Ex TT G4 H7 := e6.trans e7
  have g6 : Ex TT G3 H7 := ((e4.trans e5).trans ex4).trans g7
  have g5 : Ex TT G2 H7 := ((e2.trans e3).trans ex3).trans g6
  have g4 : Ex TT G1 H7 := (e1.trans ex2).trans g5
  have g0 : Ex TT H H7 := ex1.trans g4
  have a1 : AskAt P w K mg base C NS TT (oneX P w K mg base fa c A outer s H0 E0) [3, 2, 4, 5] H7 f1 := AskAt.ex' TT ⟨_, _, hf1, hc1, fun okX => Caps.made okX (ndef_free (by show ndefB (C8.fnScope s_l_one_right) _ askN = true; decide +kernel)) (ndef_fr (sc := C8.fnScope s_l_one_right) (by decide +kernel)) (by rfl),
    ask_lok TT x_slacks (nscope_by (by decide +kernel)) (by rfl) (by decide) (fun _ _ _ => rfl)⟩ g4
  have a2 : AskAt P w K mg base C NS TT (oneX P w K mg base fa c A outer s H0 E0) [3, 2, 4, 5] H7 f2 := AskAt.ex' TT ⟨_, _, hf2, hc2, fun okX => Caps.made okX (ndef_free (by show ndefB (C8.fnScope s_l_one_right) _ askN = true; decide +kernel)) (ndef_fr (sc := C8.fnScope s_l_one_right) (by decide +kernel)) (by rfl),
    ask_lok TT x_redundant (nscope_by (by decide +kernel)) (by rfl) (by decide) (fun _ _ _ => rfl)⟩ g5
  have a3 : AskAt P w K mg base C NS TT (oneX P w K mg base fa c A outer s H0 E0) [3, 2, 4, 5] H7 f3 := AskAt.ex' TT ⟨_, _, hf3, hc3, fun okX => Caps.made okX (ndef_free (by show ndefB (C8.fnScope s_l_one_right) _ askN = true; decide +kernel)) (ndef_fr (sc := C8.fnScope s_l_one_right) (by decide +kernel)) (by rfl),
    ask_lok TT x_trimmed (nscope_by (by decide +kernel)) (by rfl) (by decide) (fun _ _ _ => rfl)⟩ g6
  have a4 : AskAt P w K mg base C NS TT (oneX P w K mg base fa c A outer s H0 E0) [3, 2, 4, 5] H7 f4 := AskAt.ex' TT ⟨_, _, hf4, hc4, fun okX => Caps.made okX (ndef_free (by show ndefB (C8.fnScope s_l_one_right) _ askN = true; decide +kernel)) (ndef_fr (sc := C8.fnScope s_l_one_right) (by decide +kernel)) (by rfl),
    ask_lok TT x_delayed (nscope_by (by decide +kernel)) (by rfl) (by decide) (fun _ _ _ => rfl)⟩ g7
  clear hf1 hc1 hf2 hc2 hf3 hc3 hf4 hc4
  refine lc_allL (T := TT) [f1, f2, f3, f4] (fun x f => x = V.ref f ∧ AskAt P w K mg base C NS TT (oneX P w K mg base fa c A outer s H0 E0) [3, 2, 4, 5] H7 f) h7 (show Paired _ [V.ref f1, V.ref f2, V.ref f3, V.ref f4] [f1, f2, f3, f4] from .cons ⟨rfl, a1⟩ (.cons ⟨rfl, a2⟩ (.cons ⟨rfl, a3⟩ (.cons ⟨rfl, a4⟩ .nil)))) (by simp) ?_ ?_
  · rintro b x Hc K1 K0 hm ⟨rfl, ha⟩ e k1
    have ha' := AskAt.ex' TT ha e
    have e' := g0.trans e
    have hno : sp_no (C := C) (NS := NS) TT [nv, .int h, .ref pa, .ref qa] Hc (fun _ _ => False) (fun cls _ H' => cls = .ref NS ∧ Ex TT Hc H') := ⟨nv, N, h, .ref pa, pl, .ref qa, qs, rfl, hN.ex e', ok, hPl.ex e', hQs.ex e', ao, en, fun H' e => ⟨rfl, e⟩⟩
    refine ⟨rfl, ?_⟩
    show tRefused _ _ _ _ _ _ _ _ _ _ _ _ _ _ _
    exact ⟨b, nv, .int h, .ref pa, .ref qa, rfl, ha', rfl, hno, k1⟩
  · intro Dl H8 hD e8 hd ht1 ht2
    walk_at "rd"
    show D.rt _ _
    rw [ht1]
    exact k _ (g0.trans e8)
end
end Rf
end

set_option Elab.async false
set_option linter.all false
set_option maxRecDepth 100000
set_option maxHeartbeats 4000000
set_option pp.maxSteps 1500
section
open PySem PySem.Spec PyProof.Rows L2 Rf
local macro_rules | `(tactic| walk_at "up") => `(tactic| first | assumption | exact Ex.refl _ | exact upd_same | (apply upd_at; (focus assumption); walk_at "up") | (apply upd_at'; (focus assumption); walk_at "up") | (apply Ex.mutL; (focus (walk_at "up")); (focus (walk_at "up")); walk_at "up") | (apply Ex.mutD; (focus (walk_at "up")); (focus (walk_at "up")); walk_at "up") | (apply Ex.free'; (focus assumption); walk_at "up") | (apply Ex.atT; (focus assumption); walk_at "up") | (apply Ex.atL; (focus assumption); walk_at "up") | (apply Ex.atD; (focus assumption); walk_at "up") | (apply Ex.atI; (focus assumption); walk_at "up") | (apply Ex.atF; (focus assumption); walk_at "up") | (apply Ex.then'; (focus assumption); walk_at "up") | (apply NetAt.ex; (focus assumption); walk_at "up") | (apply PartsAt.ex; (focus assumption); walk_at "up") | (apply PlanAt.ex; (focus assumption); walk_at "up") | (apply QrsAt.ex; (focus assumption); walk_at "up") | (apply SrcD.ex; (focus assumption); walk_at "up") | (apply VwD.ex; (focus assumption); walk_at "up") | (apply SeqIs.ex; (focus assumption); walk_at "up") | (apply NetAt.ex'; (focus assumption); walk_at "up") | (apply PartsAt.ex'; (focus assumption); walk_at "up") | (apply PlanAt.ex'; (focus assumption); walk_at "up") | (apply QrsAt.ex'; (focus assumption); walk_at "up") | (apply SrcD.ex'; (focus assumption); walk_at "up") | (apply VwD.ex'; (focus assumption); walk_at "up") | (apply SeqIs.ex'; (focus assumption); walk_at "up") | (apply Ex.atT'; (focus assumption); walk_at "up") | (apply Ex.atL'; (focus assumption); walk_at "up") | (apply Ex.atD'; (focus assumption); walk_at "up") | (apply Ex.atI'; (focus assumption); walk_at "up") | (with_reducible apply FrmAt.ex'; (focus assumption); walk_at "up") | (with_reducible apply VwAt.ex'; (focus assumption); walk_at "up") | (with_reducible apply RowAt.ex'; (focus assumption); walk_at "up") | (with_reducible apply SrcAt.ex'; (focus assumption); walk_at "up") | (with_reducible apply QryAt.ex'; (focus assumption); walk_at "up") | (with_reducible apply Rows.ex'; (focus assumption); walk_at "up") | (with_reducible apply StAt.exE; (focus assumption); walk_at "up") | (with_reducible apply sqU; (focus assumption); assumption) | (with_reducible apply sqE; (focus assumption); walk_at "up") | (with_reducible apply sqM; (focus assumption); (focus (walk_at "ne")); walk_at "up") | (with_reducible apply Ex.tabs'; (focus assumption); walk_at "up") | (with_reducible apply Ex.thenM; (focus assumption); (focus (walk_at "up")); walk_at "up") | (with_reducible apply Ex.thenMM; (focus assumption); walk_at "up") | (with_reducible apply atML; (focus assumption); (focus (walk_at "ne")); walk_at "up") | (with_reducible apply atMD; (focus assumption); (focus (walk_at "ne")); walk_at "up") | (with_reducible apply atMT; (focus assumption); (focus (walk_at "ne")); walk_at "up"))
local macro_rules | `(tactic| walk_at "ne") => `(tactic| first | assumption | (apply ne_st; (focus assumption); (walk_at "up")))
local macro_rules | `(tactic| walk_at "sv") => `(tactic| first | rfl | assumption | exact Ex.refl _ | exact ClsV.ty _ | (apply TyX.base; first | exact TyOf.int _ | exact TyOf.str _ | exact TyOf.bl _ | (apply TyOf.tup; walk_at "up") | (apply TyOf.lst; walk_at "up") | (apply TyOf.dK; walk_at "up")) | exact kit_ty (by decide +kernel) | (apply Rd.of; walk_at "up") | (apply DGet_some; (focus (walk_at "up")); assumption) | (apply DGet_f; (focus (walk_at "up")); assumption) | (apply DGet_s; walk_at "up") | (apply DPut_s; (focus (walk_at "up")); omega) | (apply sz5; simp only [List.length_map, List.length_append, List.length_cons, List.length_nil]; omega) | (apply sz4; simp only [List.length_map, List.length_append, List.length_cons, List.length_nil]; omega) | (apply SqL.of; walk_at "up") | (apply SqT.of; walk_at "up") | (apply Or.inl; apply SqL.of; walk_at "up") | (apply Or.inr; apply SqT.of; walk_at "up") | (apply Exists.intro; first | (apply SqL.of; walk_at "up") | (apply SqT.of; walk_at "up")) | exact flatStrs _ | (apply dp_nil; walk_at "up") | (apply dp_strs; walk_at "up") | (apply dp_ints; walk_at "up") | (apply dp_row; walk_at "up") | (apply dp_rowL; walk_at "up") | (apply dp_rows; (focus (walk_at "up")); walk_at "up") | exact shaped_nil | exact shaped_ints | (apply shaped_strs; assumption) | (apply shaped_rows; assumption) | (apply shaped_row; assumption) | (with_reducible apply RowAt.mk; walk_at "up") | (apply tyL; walk_at "up") | (apply tyD; walk_at "up") | (with_reducible apply cmul_r; constructor <;> omega) | (with_reducible apply cmul_l; constructor <;> omega) | (with_reducible apply cdiv_i; constructor <;> omega) | walk_at "up" | (with_reducible apply ne_st; (focus assumption); walk_at "up") | omega | (dsimp only; omega) | decide | (simp only [List.length_map, List.length_append, List.length_cons, List.length_nil]; omega))
local macro_rules | `(tactic| walk_at "cn") => `(tactic| first | assumption | omega | (dsimp only; omega) | (simp only [List.length_map, List.length_append, List.length_cons, List.length_nil, List.length_reverse]; omega) | decide)
local macro_rules | `(tactic| walk_at "rd") => `(tactic| first
  | (with_reducible show LcGo _ _ _ _ _ _ _ _)
  | (with_reducible show DcGo _ _ _ _ _ _ _ _ _)
  | (with_reducible show ForGo _ _ _ _ _ _)
  | (refine allocI (fun p hp => ?_); generalize hh : upd _ _ _ = H2; have e := exNew (T := ‹Tb›) hh hp; have h := updAt hh; clear hh; walk_at "rd")
  | (apply And.intro; (focus (walk_at "sv")); walk_at "rd")
  | (apply Exists.intro; walk_at "rd")
  | (refine iteY ?_ ?_; (focus (walk_at "cn")); walk_at "rd")
  | (refine iteN ?_ ?_; (focus (walk_at "cn")); walk_at "rd")
  | (refine iteY' ?_ ?_; (focus (walk_at "cn")); walk_at "rd")
  | (refine iteN' ?_ ?_; (focus (walk_at "cn")); walk_at "rd")
  | (refine iteBt ?_ ?_; (focus (first | assumption | decide +kernel)); walk_at "rd")
  | (refine iteBf ?_ ?_; (focus (first | assumption | decide +kernel)); walk_at "rd")
  | (intro _; walk_at "rd") | skip)
namespace Rf
open NdefX LamX
section
variable {P : Program} {w : World} {K : PySem.W.Frag} {mg : Str → Option Value} {base : Heap} {C NS : Addr} (TT : Tb)
def srcPr (N : Net) (x : Str) : Int := ((look N.src x).map (·.2)).getD 0
def vwPr (N : Net) (x : Str) : Int := ((look N.vws x).map (·.2)).getD 0
/-- the table of prices -/
def prices (N : Net) : Kvs := mergeK (mergeK [] (kvI (srcPr N) (N.src.map (·.1)))) (kvI (vwPr N) (N.vws.map (·.1)))
theorem prices_at {N : Net} (ok : NetOk N) {x : Str} (h : x ∈ N.names) : valV (prices N) (Sum.inr x) = some (.int ((N.price x).getD 0)) := by
  have sk := kvI_stamp (vwPr N) (l := N.vws.map (·.1)) (kvI_new (srcPr N) (N.src.map (·.1)))
  have := sk.val x
  unfold prices
  rw [this]
  rcases src_or_view ok h with ⟨s, g1, g2, _⟩ | ⟨f, g1, g2, _⟩
  · have n2 : x ∉ N.vws.map (·.1) := look_none.mp g2
    have m1 : x ∈ N.src.map (·.1) := look_isSome.mp (by rw [g1] <;> rfl)
    simp only [if_neg n2, if_pos m1, Net.price, srcPr, g1]
    rfl
  · have m2 : x ∈ N.vws.map (·.1) := look_isSome.mp (by rw [g2] <;> rfl)
    simp only [if_pos m2, Net.price, vwPr, g1, g2]
    rfl
theorem kvI_len (g : Str → Int) (l : List Str) : (kvI g l).length = l.length := by unfold kvI; rw [List.length_map]
theorem one_a {fa c : Addr} {A : Around} {outer : List Env} {s : Shared} {H0 : Hp} {E0 : XK} (T : Tx K mg C) (hr : Room 13 (A.deeper (envOfC "_law_one_right" (C8.fnScope s_l_one_right) s.heap.objs.size fa (.ref c)))) (c_cost : C8.Cal P w K mg base 4 "cost" (sp_cost (C := C) TT) []) (c_l_enough : C8.Cal P w K mg base 11 "_law_enough" (sp_l_enough TT) [])
    (c_is_sufficient : C8.Cal P w K mg base 9 "is_sufficient" (sp_is_sufficient (C := C) TT) []) {u : TS} (ht : PSs (oneX P w K mg base fa c A outer s H0 E0) ((C8.fnBody s_l_one_right).drop 8) u) :
    ∃ t, PSs (oneX P w K mg base fa c A outer s H0 E0) ((C8.fnBody s_l_one_right).drop 3) t ∧ ∀ (D : Ends) (H : Hp) (v nv : V) (pa qa sa : Addr) (N : Net) (h : Int) (pl : Plan) (qs : List Query) (xs xs2 : List V) (u6 u7 u8 u9 u10 u11 u12 u13 u14 u15 u16 u17 : Option V), OneAt C TT H v nv pa qa N h pl qs xs xs2 →
      (∀ H' u6, Ex TT H H' → u D [some (.ref sa), some v, some (.int h), some nv, some (.ref pa), some (.ref qa), u6, some (.bl (N.enough pl qs)), u8, u9, u10, u11, u12, u13, u14, u15, u16, u17] H') →
      t D [some (.ref sa), some v, some (.int h), some nv, some (.ref pa), some (.ref qa), u6, u7, u8, u9, u10, u11, u12, u13, u14, u15, u16, u17] H := by
  have nd := sc_l_one_right.nd
  have hu := hu_of hr
  refine ⟨_, (pss_cons (ps_set (i := 6) nd rfl (Or.inr rfl) (pe_callTy (call_dictP rfl) (by rfl) T.n_dict (by decide +kernel) (pa_cons (lkE (lcX (pe_lc (g := (gName 13)) rfl nd (pi_keys (pe_ix ix_tup (pv 1) pe_int (fun _ _ => rfl))) (blkOk_by (own := [("_law_name", 13)]) (N := N_l_one_right) (sc := C8.fnScope s_l_one_right) (by decide +kernel)) (fun _ _ _ _ _ => (pg_name (i := 13) nd rfl (Or.inl rfl) (by first | exact Or.inr rfl | exact Or.inl rfl))) (fun _ _ _ _ _ => pts_nil) (fun _ _ _ _ _ => (pe_tup (pa_cons (pv 13) (pa_cons (pe_ix (ix_tupK (K := K)) (pe_dget hu (pe_ix (ix_tupK (K := K)) (pv 1) pe_int (fun _ _ => rfl)) (pv 13) (fun _ _ => rfl)) pe_int (fun _ _ => rfl)) pa_nil))))))) pa_nil)))
      (pss_cons (ps_expr (pe_bm PySem.F.plainAttrs_dict PySem.F.slot_dict_update PySem.F.type_dict_update (mt_updateP rfl) (pv 6) (pa_cons (lkE (lcX (pe_lc (g := (gName 13)) rfl nd (pi_keys (pe_ix ix_tup (pv 1) pe_int (fun _ _ => rfl))) (blkOk_by (own := [("_law_name", 13)]) (N := N_l_one_right) (sc := C8.fnScope s_l_one_right) (by decide +kernel)) (fun _ _ _ _ _ => (pg_name (i := 13) nd rfl (Or.inl rfl) (by first | exact Or.inr rfl | exact Or.inl rfl))) (fun _ _ _ _ _ => pts_nil) (fun _ _ _ _ _ => (pe_tup (pa_cons (pv 13) (pa_cons (pe_ix (ix_tupK (K := K)) (pe_dget hu (pe_ix (ix_tupK (K := K)) (pv 1) pe_int (fun _ _ => rfl)) (pv 13) (fun _ _ => rfl)) pe_int (fun _ _ => rfl)) pa_nil))))))) pa_nil)))
      (pss_cons (ps_if (pt_cmpR op_ne (C8.pe_c c_cost hr (by first | decide | omega) (by rfl) (pa_cons (pv 3) (pa_cons (pv 2) (pa_cons (pv 4) pa_nil)))) (pe_callB (cr_sum rfl) (by rfl) T.n_sum (by decide +kernel) (pa_cons (lcX (pe_lc (g := (gTup K 2 (gCons (gName 14) (gCons (gName 13) gNil)))) rfl nd (pi_list (pv 4)) (blkOk_by (own := [("_law_tick", 14), ("_law_name", 13)]) (N := N_l_one_right) (sc := C8.fnScope s_l_one_right) (by decide +kernel)) (fun _ _ _ _ _ => (pg_tup rfl (pgs_cons (pg_name (i := 14) nd rfl (Or.inl rfl) (by first | exact Or.inr rfl | exact Or.inl rfl)) (pgs_cons (pg_name (i := 13) nd rfl (Or.inl rfl) (by first | exact Or.inr rfl | exact Or.inl rfl)) pgs_nil)))) (fun _ _ _ _ _ => pts_nil) (fun _ _ _ _ _ => (pe_dget hu (pv 6) (pv 13) (fun _ _ => rfl))))) pa_nil)) (nomark _)) (pss_one (ps_ret pe_bl)) pss_nil)
      (pss_cons (ps_set (i := 7) nd rfl (Or.inl rfl) (C8.pe_c c_l_enough hr (by first | decide | omega) (by rfl) (pa_cons (pv 1) (pa_cons (pv 4) (pa_cons (pv 5) pa_nil)))))
      (pss_cons (ps_if (pt_cmpR op_ne (C8.pe_c c_is_sufficient hr (by first | decide | omega) (by rfl) (pa_cons (pv 3) (pa_cons (pv 2) (pa_cons (pe_callTy call_tuple_of (by rfl) T.n_tuple (by decide +kernel) (pa_cons (pv 4) pa_nil)) (pa_cons (pe_callTy call_tuple_of (by rfl) T.n_tuple (by decide +kernel) (pa_cons (pv 5) pa_nil)) pa_nil))))) (pv 7) (nomark _)) (pss_one (ps_ret pe_bl)) pss_nil)
      ht))))), ?_⟩
  intro D H v nv pa qa sa N h pl qs xs xs2 u6 u7 u8 u9 u10 u11 u12 u13 u14 u15 u16 u17 o k
  obtain ⟨⟨p, d1, d2, rfl, hpp, ⟨k1, e1, g1⟩, ⟨k2, e2, g2⟩⟩, ok, hN, hTab, hp, hx, hq, hx2, ao⟩ := id o
  have hP := o.hP
  have l1 := ao.po.len
  have l2 := ao.q2
  have lx := Paired.length hx
  have s5 := ok.s5
  have lk1 := g1.len
  have lk2 := g2.len
  have hpn : ∀ r ∈ pl, r.2 ∈ N.names := fun r hr => (ao.po.el r hr).2.2
  have hqn : ∀ q ∈ qs, q.2.1 ∈ N.names := fun q hq => (ao.qk q hq).2.2.1
  walk_at "rd"
  refine LkE.of ⟨d1, .dK k1, e1, trivial, fun od => ?_⟩
  have hlk : ∀ H', Ex TT (upd H d1 (.frz od (.dK k1))) H' → H' d1 = some (.frz od (.dK k1)) ∧ Ex TT H (upd H' d1 (.dK k1)) := fun H' e => lk_out e1 e
  have zpp : p ≠ d1 := fun z => by rw [z, e1] at hpp; cases hpp
  have hppl : upd H d1 (.frz od (.dK k1)) p = some (.tup [.ref d1, .ref d2]) := by rw [upd_ne zpp]; exact hpp
  have hl1 : upd H d1 (.frz od (.dK k1)) d1 = some (.frz od (.dK k1)) := upd_same
  have htu : Tu H (upd H d1 (.frz od (.dK k1))) := Tu.set e1
  generalize upd H d1 (.frz od (.dK k1)) = Hl at hlk hppl hl1 htu
  have wk := walk_keys (d := d1) (o := od) (kvs := k1)
  have hlk1 : k1.length = (N.src.map (·.1)).length := by rw [List.length_map]; exact lk1
  rw [hlk1] at wk
  walk_at "rd"
  refine .inl ⟨_, hl1, ?_⟩
  refine lc_mapL (T := TT) (N.src.map (·.1)) (fun _ => true) (PairI (srcPr N)) (fun y b Ha Hb t h => h.tu t) wk (by rw [List.length_map]; omega) (fun H' e => e.at hl1) ?_ ?_
  · intro i x y Hy Hy' K1 K0 hxi ey yy kk1 kk0
    obtain ⟨rfl, hyy⟩ := yy
    have := keys_at g1 hyy
    rw [List.getElem?_map, hxi] at this
    cases this
    obtain ⟨cs, hcs⟩ : ∃ cs, look N.src x = some cs := Option.isSome_iff_exists.mp (look_isSome.mpr (List.mem_of_getElem? hxi))
    obtain ⟨vs, hvs, ts, rfl, hts⟩ := g1.yes hcs
    have htl := htu _ _ hts
    have hts' : Hy' ts = some (.tup [.int cs.1, .int cs.2]) := ey.at htl
    have hl1' : Hy' d1 = some (.frz od (.dK k1)) := ey.at hl1
    walk_at "rd"
    exact kk1 rfl _ _ (by walk_at "up") ⟨_, rfl, by unfold srcPr; rw [hcs]; simp only [Option.map_some, Option.getD_some]; walk_at "up"⟩
  · intro D8 ys H8 hD8 e8 hd8 qq
    rw [filt_true] at qq
    obtain ⟨f1, f2⟩ := hlk _ e8
    refine ⟨f1, ?_⟩
    have z8 : D8 ≠ d1 := fun z => by rw [z, f1] at hd8; cases hd8
    have hd9 : upd H8 d1 (.dK k1) D8 = some (.lst ys) := by rw [upd_ne z8]; exact hd8
    have qq9 : Paired (PairI (srcPr N) (upd H8 d1 (.dK k1))) ys (N.src.map (·.1)) := Paired.imp qq fun _ _ z => z.tu (Tu.set f1)
    generalize upd H8 d1 (.dK k1) = H9 at f2 hd9 qq9
    obtain ⟨ps, rfl, hps⟩ := pairs_refs (K := K) qq9
    clear hlk hppl hl1 htu wk hd8 qq e8 hD8 f1
    walk_at "rd"
    rename_i D10 hD10 H10 e10 hd10
    have e0a : Ex TT H H10 := by walk_at "up"
    refine LkE.of ⟨d2, .dK k2, e0a.at e2, trivial, fun od2 => ?_⟩
    have ebl := lk_in (T := TT) od2 e0a e2
    have hlk : ∀ H', Ex TT (upd H d2 (.frz od2 (.dK k2))) H' → H' d2 = some (.frz od2 (.dK k2)) ∧ Ex TT H (upd H' d2 (.dK k2)) := fun H' e => lk_out e2 e
    have zpp2 : p ≠ d2 := fun z => by rw [z, e2] at hpp; cases hpp
    have zd : D10 ≠ d2 := Ne.symm (ne_of_at (f2.at e2) hD10)
    have hppl : upd H10 d2 (.frz od2 (.dK k2)) p = some (.tup [.ref d1, .ref d2]) := by rw [upd_ne zpp2]; exact e0a.at hpp
    have hdl : upd H10 d2 (.frz od2 (.dK k2)) D10 = some (.dK (mergeK [] (kvI (srcPr N) (N.src.map (·.1))))) := by rw [upd_ne zd]; exact hd10
    have hl2 : upd H10 d2 (.frz od2 (.dK k2)) d2 = some (.frz od2 (.dK k2)) := upd_same
    have htu : Tu H (upd H10 d2 (.frz od2 (.dK k2))) := e0a.tu.trans (Tu.set (e0a.at e2))
    generalize upd H d2 (.frz od2 (.dK k2)) = Hb at ebl hlk
    generalize upd H10 d2 (.frz od2 (.dK k2)) = Hl2 at ebl hppl hdl hl2 htu
    have wk := walk_keys (d := d2) (o := od2) (kvs := k2)
    have hlk2 : k2.length = (N.vws.map (·.1)).length := by rw [List.length_map]; exact lk2
    rw [hlk2] at wk
    walk_at "rd"
    refine .inl ⟨_, hl2, ?_⟩
    refine lc_mapL (T := TT) (N.vws.map (·.1)) (fun _ => true) (PairI (vwPr N)) (fun y b Ha Hb t h => h.tu t) wk (by rw [List.length_map]; omega) (fun H' e => e.at hl2) ?_ ?_
    · intro i x y Hy Hy' K1 K0 hxi ey yy kk1 kk0
      obtain ⟨rfl, hyy⟩ := yy
      have := keys_at g2 hyy
      rw [List.getElem?_map, hxi] at this
      cases this
      obtain ⟨cs, hcs⟩ : ∃ cs, look N.vws x = some cs := Option.isSome_iff_exists.mp (look_isSome.mpr (List.mem_of_getElem? hxi))
      obtain ⟨vs, hvs, ts, us, rfl, hts, _⟩ := g2.yes hcs
      have htl := htu _ _ hts
      have hts' : Hy' ts = some (.tup [us, .int cs.2]) := ey.at htl
      have hl2' : Hy' d2 = some (.frz od2 (.dK k2)) := ey.at hl2
      walk_at "rd"
      exact kk1 rfl _ _ (by walk_at "up") ⟨_, rfl, by unfold vwPr; rw [hcs]; simp only [Option.map_some, Option.getD_some]; walk_at "up"⟩
    · intro D12 ys2 H12 hD12 e12 hd12 qq
      rw [filt_true] at qq
      obtain ⟨f1, f3⟩ := hlk _ (ebl.trans e12)
      refine ⟨f1, ?_⟩
      have z12 : D12 ≠ d2 := fun z => by rw [z, f1] at hd12; cases hd12
      have hd13 : upd H12 d2 (.dK k2) D12 = some (.lst ys2) := by rw [upd_ne z12]; exact hd12
      have hda : upd H12 d2 (.dK k2) D10 = some (.dK (mergeK [] (kvI (srcPr N) (N.src.map (·.1))))) := by rw [upd_ne zd]; exact e12.at hdl
      have qq2 : Paired (PairI (vwPr N) (upd H12 d2 (.dK k2))) ys2 (N.vws.map (·.1)) := Paired.imp qq fun _ _ z => z.tu (Tu.set f1)
      generalize upd H12 d2 (.dK k2) = H13 at f3 hd13 hda qq2
      obtain ⟨ps2, rfl, hps2⟩ := pairs_refs (K := K) qq2
      have hd0 : H D10 = none := f2.free hD10
      have hpne : ∀ p ∈ ps2, p ≠ D10 := by
        intro q hq
        obtain ⟨i, hi⟩ := List.mem_iff_getElem?.mp hq
        have q2 := qq2
        intro z
        have hm : V.ref q ∈ ps2.map V.ref := List.mem_map.mpr ⟨q, hq, rfl⟩
        have key : ∀ {l1 : List V} {l2 : List Str}, Paired (PairI (vwPr N) H13) l1 l2 → V.ref q ∈ l1 → ∃ x, H13 q = some (.tup x) := by
          intro l1 l2 h
          induction h with
          | nil => intro h; cases h
          | cons a r ih =>
            intro h
            rcases List.mem_cons.mp h with h | h
            · obtain ⟨t, rfl, ht⟩ := a
              cases h
              exact ⟨_, ht⟩
            · exact ih h
        obtain ⟨x, hx⟩ := key qq2 hm
        rw [z, hda] at hx
        cases hx
      have hane : D12 ≠ D10 := fun z => by rw [z, hda] at hd13; cases hd13
      have hlz : Box ((mergeK [] (kvI (srcPr N) (N.src.map (·.1)))).length + (kvI (vwPr N) (N.vws.map (·.1))).length ≤ sizeLine) := by
        refine ⟨?_⟩
        have h1 := length_mergeK (kvI (srcPr N) (N.src.map (·.1))) []
        rw [kvI_len, List.length_map] at h1 ⊢
        rw [List.length_nil] at h1
        exact sz5 (by omega)
      walk_at "rd"
      refine ⟨hlz.un, ?_⟩
      have e14 : Ex TT H (upd H13 D10 (.dK (prices N))) := Ex.mutD hda hd0 f3
      have h14 : upd H13 D10 (.dK (prices N)) D10 = some (.dK (prices N)) := upd_same
      unfold prices at e14 h14
      generalize upd H13 D10 _ = H14 at e14 h14 ⊢
      have h14 : H14 D10 = some (.dK (prices N)) := h14
      have o14 := o.ex e14
      have hPl : PlanAt H14 (.ref pa) pl := ⟨pa, xs, rfl, .inl o14.hp, o14.hx⟩
      clear hda hd13 qq2 hps2 hpne hane hlz hd12 qq f1 hdl hl2 htu wk hppl hlk ebl e12 hd10 e10 hps qq9 hd9 e0a f2 f3
      have h0 := ao.h0
      have h12 := ao.h1
      have po := ao.po
      have hp14 := o14.hp
      have hx14 := o14.hx
      walk_at "rd"
      rename_i H15 e15
      have hp15 : H15 pa = some (.lst xs) := e15.at hp14
      have hx15 : Rows H15 xs pl := Rows.tu e15.tu hx14
      clear hp14 hx14
      refine lc_lstP (T := TT) pl (RowAt H15) hp15 hx15 (by omega) (fun _ => true) (fun _ y t => y = V.int ((N.price t.2).getD 0)) (fun _ _ _ _ _ h => h) ?_ ?_
      · rintro t x Hc K1 K0 hm ⟨r, rfl, hr⟩ e kk1 kk0
        have hpt := prices_at ok (hpn t hm)
        have hd15 : Hc D10 = some (.dK (prices N)) := by walk_at "up"
        have hr' : Hc r = some (.tup [.int t.1, .str t.2]) := by walk_at "up"
        walk_at "rd"
        exact kk1 rfl _ _ (by walk_at "up") rfl
      · intro Dl ys H16 hD e16 hd16 qq
        rw [filt_true] at qq
        have eq := ints_of (f := fun t : Int × Str => (N.price t.2).getD 0) qq
        rw [eq] at hd16
        have hce : V.int (costI N pl) = V.int (List.map (fun t : Int × Str => (N.price t.2).getD 0) pl).sum := rfl
        have lp : pl.length ≤ 1000 := by omega
        walk_at "rd"
        refine ⟨Paired.imp hx2 fun _ _ z => z.tu (show Ex TT H H16 by walk_at "up").tu, ?_⟩
        walk_at "rd"
        rename_i H17 e17
        refine .inl ⟨SqL.of (show H17 pa = some (.lst xs) by walk_at "up"), ?_⟩
        walk_at "rd"
        rename_i t1 ht1 H18 e18 ht1'
        refine .inl ⟨SqL.of (show H18 qa = some (.lst xs2) by walk_at "up"), ?_⟩
        walk_at "rd"
        rename_i t2 ht2 H19 e19 ht2'
        have o19 := o.ex (show Ex TT H H19 by walk_at "up")
        have hbe : V.bl (N.enough pl qs) = V.bl (N.enough pl qs) := rfl
        refine ⟨⟨t1, xs, rfl, .inr (e19.at ht1'), o19.hx⟩, ⟨t2, xs2, rfl, .inr ht2', o19.hx2⟩, ?_⟩
        walk_at "rd"
        exact k _ _ (by walk_at "up")
end
end Rf
end

set_option Elab.async false
set_option linter.all false
set_option maxRecDepth 100000
set_option maxHeartbeats 4000000
set_option pp.maxSteps 1500
section
open PySem PySem.Spec PyProof.Rows L2 Rf
local macro_rules | `(tactic| walk_at "up") => `(tactic| first | assumption | exact Ex.refl _ | exact upd_same | (apply upd_at; (focus assumption); walk_at "up") | (apply upd_at'; (focus assumption); walk_at "up") | (apply Ex.mutL; (focus (walk_at "up")); (focus (walk_at "up")); walk_at "up") | (apply Ex.mutD; (focus (walk_at "up")); (focus (walk_at "up")); walk_at "up") | (apply Ex.free'; (focus assumption); walk_at "up") | (apply Ex.atT; (focus assumption); walk_at "up") | (apply Ex.atL; (focus assumption); walk_at "up") | (apply Ex.atD; (focus assumption); walk_at "up") | (apply Ex.atI; (focus assumption); walk_at "up") | (apply Ex.atF; (focus assumption); walk_at "up") | (apply Ex.then'; (focus assumption); walk_at "up") | (apply NetAt.ex; (focus assumption); walk_at "up") | (apply PartsAt.ex; (focus assumption); walk_at "up") | (apply PlanAt.ex; (focus assumption); walk_at "up") | (apply QrsAt.ex; (focus assumption); walk_at "up") | (apply SrcD.ex; (focus assumption); walk_at "up") | (apply VwD.ex; (focus assumption); walk_at "up") | (apply SeqIs.ex; (focus assumption); walk_at "up") | (apply NetAt.ex'; (focus assumption); walk_at "up") | (apply PartsAt.ex'; (focus assumption); walk_at "up") | (apply PlanAt.ex'; (focus assumption); walk_at "up") | (apply QrsAt.ex'; (focus assumption); walk_at "up") | (apply SrcD.ex'; (focus assumption); walk_at "up") | (apply VwD.ex'; (focus assumption); walk_at "up") | (apply SeqIs.ex'; (focus assumption); walk_at "up") | (apply Ex.atT'; (focus assumption); walk_at "up") | (apply Ex.atL'; (focus assumption); walk_at "up") | (apply Ex.atD'; (focus assumption); walk_at "up") | (apply Ex.atI'; (focus assumption); walk_at "up") | (with_reducible apply FrmAt.ex'; (focus assumption); walk_at "up") | (with_reducible apply VwAt.ex'; (focus assumption); walk_at "up") | (with_reducible apply RowAt.ex'; (focus assumption); walk_at "up") | (with_reducible apply SrcAt.ex'; (focus assumption); walk_at "up") | (with_reducible apply QryAt.ex'; (focus assumption); walk_at "up") | (with_reducible apply Rows.ex'; (focus assumption); walk_at "up") | (with_reducible apply StAt.exE; (focus assumption); walk_at "up") | (with_reducible apply sqU; (focus assumption); assumption) | (with_reducible apply sqE; (focus assumption); walk_at "up") | (with_reducible apply sqM; (focus assumption); (focus (walk_at "ne")); walk_at "up") | (with_reducible apply Ex.tabs'; (focus assumption); walk_at "up") | (with_reducible apply Ex.thenM; (focus assumption); (focus (walk_at "up")); walk_at "up") | (with_reducible apply Ex.thenMM; (focus assumption); walk_at "up") | (with_reducible apply atML; (focus assumption); (focus (walk_at "ne")); walk_at "up") | (with_reducible apply atMD; (focus assumption); (focus (walk_at "ne")); walk_at "up") | (with_reducible apply atMT; (focus assumption); (focus (walk_at "ne")); walk_at "up"))
local macro_rules | `(tactic| walk_at "ne") => `(tactic| first | assumption | (apply ne_st; (focus assumption); (walk_at "up")))
local macro_rules | `(tactic| walk_at "sv") => `(tactic| first | rfl | assumption | exact Ex.refl _ | exact ClsV.ty _ | (apply TyX.base; first | exact TyOf.int _ | exact TyOf.str _ | exact TyOf.bl _ | (apply TyOf.tup; walk_at "up") | (apply TyOf.lst; walk_at "up") | (apply TyOf.dK; walk_at "up")) | exact kit_ty (by decide +kernel) | (apply Rd.of; walk_at "up") | (apply DGet_some; (focus (walk_at "up")); assumption) | (apply DGet_f; (focus (walk_at "up")); assumption) | (apply DGet_s; walk_at "up") | (apply DPut_s; (focus (walk_at "up")); omega) | (apply sz5; simp only [List.length_map, List.length_append, List.length_cons, List.length_nil]; omega) | (apply sz4; simp only [List.length_map, List.length_append, List.length_cons, List.length_nil]; omega) | (apply SqL.of; walk_at "up") | (apply SqT.of; walk_at "up") | (apply Or.inl; apply SqL.of; walk_at "up") | (apply Or.inr; apply SqT.of; walk_at "up") | (apply Exists.intro; first | (apply SqL.of; walk_at "up") | (apply SqT.of; walk_at "up")) | exact flatStrs _ | (apply dp_nil; walk_at "up") | (apply dp_strs; walk_at "up") | (apply dp_ints; walk_at "up") | (apply dp_row; walk_at "up") | (apply dp_rowL; walk_at "up") | (apply dp_rows; (focus (walk_at "up")); walk_at "up") | exact shaped_nil | exact shaped_ints | (apply shaped_strs; assumption) | (apply shaped_rows; assumption) | (apply shaped_row; assumption) | (with_reducible apply RowAt.mk; walk_at "up") | (apply tyL; walk_at "up") | (apply tyD; walk_at "up") | (with_reducible apply cmul_r; constructor <;> omega) | (with_reducible apply cmul_l; constructor <;> omega) | (with_reducible apply cdiv_i; constructor <;> omega) | walk_at "up" | (with_reducible apply ne_st; (focus assumption); walk_at "up") | omega | (dsimp only; omega) | decide | (simp only [List.length_map, List.length_append, List.length_cons, List.length_nil]; omega))
local macro_rules | `(tactic| walk_at "cn") => `(tactic| first | assumption | omega | (dsimp only; omega) | (simp only [List.length_map, List.length_append, List.length_cons, List.length_nil, List.length_reverse]; omega) | decide)
local macro_rules | `(tactic| walk_at "rd") => `(tactic| first
  | (with_reducible show LcGo _ _ _ _ _ _ _ _)
  | (with_reducible show DcGo _ _ _ _ _ _ _ _ _)
  | (with_reducible show ForGo _ _ _ _ _ _)
  | (refine allocI (fun p hp => ?_); generalize hh : upd _ _ _ = H2; have e := exNew (T := ‹Tb›) hh hp; have h := updAt hh; clear hh; walk_at "rd")
  | (apply And.intro; (focus (walk_at "sv")); walk_at "rd")
  | (apply Exists.intro; walk_at "rd")
  | (refine iteY ?_ ?_; (focus (walk_at "cn")); walk_at "rd")
  | (refine iteN ?_ ?_; (focus (walk_at "cn")); walk_at "rd")
  | (refine iteY' ?_ ?_; (focus (walk_at "cn")); walk_at "rd")
  | (refine iteN' ?_ ?_; (focus (walk_at "cn")); walk_at "rd")
  | (refine iteBt ?_ ?_; (focus (first | assumption | decide +kernel)); walk_at "rd")
  | (refine iteBf ?_ ?_; (focus (first | assumption | decide +kernel)); walk_at "rd")
  | (intro _; walk_at "rd") | skip)
namespace Rf
open NdefX LamX
section
variable {T : Tb} {C : Addr} {H H' : Hp} {sa sc : Addr} {b : Int}
theorem SrcD.exM {d : Addr} {l : List (Str × Int × Int)} (h : SrcD H d l) (st : StAt H sa sc b) (e : Ex T (ms sa H) (ms sa H')) : SrcD H' d l := by
  obtain ⟨k1, e1, g1⟩ := h
  exact ⟨k1, atMD e (st.neD e1) e1, DctAt.imp g1 fun _ _ z => z.tu (tuM st e)⟩
theorem VwD.exM {d : Addr} {l : List (Str × Frm × Int)} (h : VwD H d l) (st : StAt H sa sc b) (e : Ex T (ms sa H) (ms sa H')) : VwD H' d l := by
  obtain ⟨k1, e1, g1⟩ := h
  exact ⟨k1, atMD e (st.neD e1) e1, DctAt.imp g1 fun _ _ z => z.tu (tuM st e)⟩
theorem NetAt.exM {v : V} {N : Net} (h : NetAt C H v N) (st : StAt H sa sc b) (e : Ex T (ms sa H) (ms sa H')) : NetAt C H' v N := by
  obtain ⟨p, dx, fs, d1, d2, rfl, hp, h1, h2, hm, f, g⟩ := h
  have ne : p ≠ sa := fun z => by
    obtain ⟨_, _, q⟩ := st
    rw [z, q] at hp
    cases hp
  exact ⟨p, dx, fs, d1, d2, rfl, ms_at (e.at (at_ms hp ne)) (fun z => nomatch z), h1, h2, hm, f.exM st e, g.exM st e⟩
theorem Tabs.exM (h : LamX.Tabs T H) (st : StAt H sa sc b) (st' : StAt H' sa sc b) (e : Ex T (ms sa H) (ms sa H')) : LamX.Tabs T H' := by
  obtain ⟨_, _, z⟩ := st
  obtain ⟨_, _, z'⟩ := st'
  exact (tabs_ms z' rfl).mp (e.tb ((tabs_ms z rfl).mpr h))
end
section
variable {P : Program} {w : World} {K : PySem.W.Frag} {mg : Str → Option Value} {base : Heap} {C NS : Addr} (TT : Tb)
theorem one_q {fa c : Addr} {A : Around} {outer : List Env} {s : Shared} {H0 : Hp} {E0 : XK} (T : Tx K mg C) (hr : Room 13 (A.deeper (envOfC "_law_one_right" (C8.fnScope s_l_one_right) s.heap.objs.size fa (.ref c)))) (c_l_next : C8.Cal P w K mg base 3 "_law_next" (sp_l_next TT K) []) (c_l_query : C8.Cal P w K mg base 5 "_law_query" (sp_l_query TT K) [])
    {u : TS} (ht : PSs (oneX P w K mg base fa c A outer s H0 E0) ((C8.fnBody s_l_one_right).drop 3) u) :
    ∃ t, PSs (oneX P w K mg base fa c A outer s H0 E0) ((C8.fnBody s_l_one_right).drop 2) t ∧ ∀ (D : Ends) (H : Hp) (v nv : V) (pa sa sc : Addr) (ns : List Int) (b0 : Int) (N : Net) (h : Int) (pl : Plan) (xs : List V) (u5 u6 u7 u8 u9 u10 u11 u12 u13 u14 u15 u16 u17 : Option V),
      StAt H sa sc b0 → 0 ≤ b0 → SqL K H sc (ns.map V.int) → ns.length ≤ 100 → sc ≠ sa → PartsAt H v N → NetOk N → NetAt C H nv N → LamX.Tabs TT H → pa ≠ sa → H pa = some (.lst xs) → Rows H xs pl → PlanOk N h pl → 1 ≤ h → h ≤ 12 →
      (∀ H' qa xs2 qs, Ex TT (ms sa H) (ms sa H') → StAt H' sa sc b0 → OneAt C TT H' v nv pa qa N h pl qs xs xs2 → u D [some (.ref sa), some v, some (.int h), some nv, some (.ref pa), some (.ref qa), u6, u7, u8, u9, u10, u11, u12, u13, u14, u15, u16, u17] H') →
      t D [some (.ref sa), some v, some (.int h), some nv, some (.ref pa), u5, u6, u7, u8, u9, u10, u11, u12, u13, u14, u15, u16, u17] H := by
  have nd := sc_l_one_right.nd
  have hu := hu_of hr
  refine ⟨_, (pss_cons (ps_set (i := 5) nd rfl (Or.inr rfl) (lcX (pe_lc (g := (gName 12)) rfl nd (pi_range1 (by rfl) T.n_range (pa_cons (pe_op op_add pe_int (C8.pe_c c_l_next hr (by first | decide | omega) (by rfl) (pa_cons (pv 0) (pa_cons pe_int pa_nil)))) pa_nil)) (blkOk_by (own := [("_law_turn", 12)]) (N := N_l_one_right) (sc := C8.fnScope s_l_one_right) (by decide +kernel)) (fun _ _ _ _ _ => (pg_name (i := 12) nd rfl (Or.inl rfl) (by first | exact Or.inr rfl | exact Or.inl rfl))) (fun _ _ _ _ _ => pts_nil) (fun _ _ _ _ _ => (C8.pe_c c_l_query hr (by first | decide | omega) (by rfl) (pa_cons (pv 0) (pa_cons (pv 1) (pa_cons (pv 2) pa_nil))))))))
      ht), ?_⟩
  intro D H v nv pa sa sc ns b0 N h pl xs u5 u6 u7 u8 u9 u10 u11 u12 u13 u14 u15 u16 u17 hst hb0 hsc hln hss hP ok hN hTab hpa hp hx po h1 h12 k
  walk_at "rd"
  rename_i r H1 hr0 hr1 e1 st1
  have hP1 := hP.exM hst e1
  have hsc1 := sqM hsc hss e1
  have wk : Walk (Itr 0 (1 + r).toNat) (List.range (1 + r).toNat).length (fun _ => True) (YFn fun i => .int (0 + i)) := by rw [List.length_range]; exact walk_range
  refine lc_mapM (T := TT) st1 (List.range (1 + r).toNat) QryAt (fun _ q => 0 ≤ q.1 ∧ q.1 ≤ h ∧ q.2.1 ∈ N.names ∧ 0 ≤ q.2.2 ∧ q.2.2 ≤ 999) (fun y q Ha Hb t h => h.tu t) wk (by rw [List.length_range]; omega) (fun _ _ _ => trivial) ?_ ?_
  · intro i x y Hq Hq' K1 K0 hxi eq stq yy kk1
    obtain ⟨rfl, hy⟩ := yy
    have hy : y = V.int (0 + (i : Nat)) := hy
    subst hy
    have hPq := hP1.exM st1 eq
    have hscq := sqM hsc1 hss eq
    walk_at "rd"
    rename_i d q H2 e2 st2 hq q0 q1 q2 q3 q4
    exact kk1 _ q _ (by walk_at "up") st2 hq ⟨q0, q1, q2, q3, q4⟩
  · intro Dl ys cs H2 hD e2 st2 hd hR hB
    walk_at "rd"
    have lB := Paired.length hB
    rw [List.length_range] at lB
    have hk : ∀ q ∈ cs, 0 ≤ q.1 ∧ q.1 ≤ h ∧ q.2.1 ∈ N.names ∧ 0 ≤ q.2.2 ∧ q.2.2 ≤ 999 := by
      have key : ∀ {l : List Nat} {cs : List Query}, Paired (fun _ q => 0 ≤ q.1 ∧ q.1 ≤ h ∧ q.2.1 ∈ N.names ∧ 0 ≤ q.2.2 ∧ q.2.2 ≤ 999) l cs → ∀ q ∈ cs, 0 ≤ q.1 ∧ q.1 ≤ h ∧ q.2.1 ∈ N.names ∧ 0 ≤ q.2.2 ∧ q.2.2 ≤ 999 := by
        intro l cs hp
        induction hp with
        | nil => intro q hq; cases hq
        | cons a r ih =>
          intro q hq
          rcases List.mem_cons.mp hq with rfl | hq
          · exact a
          · exact ih q hq
      exact key hB
    have e02 : Ex TT (ms sa H) (ms sa H2) := e1.trans e2
    have tu02 := tuM hst e02
    exact k H2 Dl ys cs e02 st2 ⟨hP.exM hst e02, ok, hN.exM hst e02, Tabs.exM hTab hst st2 e02, atML e02 hpa hp, Rows.tu tu02 hx, hd, hR, ⟨h1, h12, po, by omega, by omega, hk⟩⟩
theorem one_p {fa c : Addr} {A : Around} {outer : List Env} {s : Shared} {H0 : Hp} {E0 : XK} (T : Tx K mg C) (hr : Room 13 (A.deeper (envOfC "_law_one_right" (C8.fnScope s_l_one_right) s.heap.objs.size fa (.ref c)))) (c_Network : C8.Mak P w K mg base 5 "Network" C (sp_m_init (C := C) TT) []) (c_l_pick : C8.Cal P w K mg base 4 "_law_pick" (sp_l_pick TT K) [])
    (c_l_plan : C8.Cal P w K mg base 4 "_law_plan" (sp_l_plan TT K) []) {u : TS} (ht : PSs (oneX P w K mg base fa c A outer s H0 E0) ((C8.fnBody s_l_one_right).drop 2) u) :
    ∃ t, PSs (oneX P w K mg base fa c A outer s H0 E0) ((C8.fnBody s_l_one_right).drop 1) t ∧ ∀ (D : Ends) (H : Hp) (v : V) (sa sc : Addr) (ns : List Int) (b0 : Int) (N : Net) (h : Int) (u3 u4 u5 u6 u7 u8 u9 u10 u11 u12 u13 u14 u15 u16 u17 : Option V),
      StAt H sa sc b0 → 0 ≤ b0 → SqL K H sc (ns.map V.int) → ns.length ≤ 100 → sc ≠ sa → PartsAt H v N → NetOk N → LamX.Tabs TT H → 1 ≤ h → h ≤ 12 →
      (∀ H' nv pa xs pl, Ex TT (ms sa H) (ms sa H') → StAt H' sa sc b0 → NetAt C H' nv N → pa ≠ sa → H' pa = some (.lst xs) → Rows H' xs pl → PlanOk N h pl → u D [some (.ref sa), some v, some (.int h), some nv, some (.ref pa), u5, u6, u7, u8, u9, u10, u11, u12, u13, u14, u15, u16, u17] H') →
      t D [some (.ref sa), some v, some (.int h), u3, u4, u5, u6, u7, u8, u9, u10, u11, u12, u13, u14, u15, u16, u17] H := by
  have nd := sc_l_one_right.nd
  have hu := hu_of hr
  refine ⟨_, (pss_cons (ps_asg (pe_tup (pa_cons (C8.pe_mk c_Network hr (by first | decide | omega) (by rfl) (pa_cons (pe_ix ix_tup (pv 1) pe_int (fun _ _ => rfl)) (pa_cons (pe_ix ix_tup (pv 1) pe_int (fun _ _ => rfl)) pa_nil))) (pa_cons (C8.pe_c c_l_plan hr (by first | decide | omega) (by rfl) (pa_cons (pv 0) (pa_cons (pv 1) (pa_cons (pv 2) (pa_cons (C8.pe_c c_l_pick hr (by first | decide | omega) (by rfl) (pa_cons (pv 0) (pa_cons (pe_lst (pa_cons pe_int (pa_cons pe_int (pa_cons pe_int pa_nil)))) pa_nil))) pa_nil))))) pa_nil))) (pg_tup rfl (pgs_cons (pg_name (i := 3) nd rfl (Or.inr rfl) (by first | exact Or.inr rfl | exact Or.inl rfl)) (pgs_cons (pg_name (i := 4) nd rfl (Or.inr rfl) (by first | exact Or.inr rfl | exact Or.inl rfl)) pgs_nil))))
      ht), ?_⟩
  intro D H v sa sc ns b0 N h u3 u4 u5 u6 u7 u8 u9 u10 u11 u12 u13 u14 u15 u16 u17 hst hb0 hsc hln hss hP ok hTab h1 h12 k
  obtain ⟨p, d1, d2, rfl, hpp, hs1, hv2⟩ := id hP
  walk_at "rd"
  rename_i a dx ha hdx hne
  have ea : Ex TT H (upd H dx (.own a)) := Ex.new hdx
  have eb : Ex TT (upd H dx (.own a)) (upd (upd H dx (.own a)) a (.ins C dx [])) := Ex.new (by rw [upd_ne (Ne.symm hne)]; exact ha)
  have hat : upd (upd H dx (.own a)) a (.ins C dx []) a = some (.ins C dx []) := upd_same
  have e01 := ea.trans eb
  generalize upd (upd H dx (.own a)) a (.ins C dx []) = H1 at e01 hat
  refine ⟨hs1.ex e01, hv2.ex e01, ok, fun Hm x1 x2 em s1 s2 => ⟨rfl, ?_⟩⟩
  have hma : Hm a = some (.ins C dx []) := em.at hat
  have e02 : Ex TT H (upd Hm a (.ins C dx [("springs", .ref x1), ("derived", .ref x2)])) := (e01.trans em).mut ha hma
  have hN : NetAt C (upd Hm a (.ins C dx [("springs", .ref x1), ("derived", .ref x2)])) (.ref a) N := by
    obtain ⟨k1', hk1', g1'⟩ := s1
    obtain ⟨k2', hk2', g2'⟩ := s2
    have n1 : x1 ≠ a := fun z => by rw [z, hma] at hk1'; cases hk1'
    have n2 : x2 ≠ a := fun z => by rw [z, hma] at hk2'; cases hk2'
    refine ⟨a, dx, _, x1, x2, rfl, upd_same, rfl, rfl, fun m hm => ?_, ⟨k1', by rw [upd_ne n1]; exact hk1', DctAt.imp g1' fun _ _ z => z.tu (Tu.set hma)⟩, ⟨k2', by rw [upd_ne n2]; exact hk2', DctAt.imp g2' fun _ _ z => z.tu (Tu.set hma)⟩⟩
    simp only [List.mem_cons, List.not_mem_nil, or_false] at hm
    rcases hm with rfl | rfl | rfl | rfl | rfl | rfl <;> rfl
  generalize upd Hm a (.ins C dx [("springs", .ref x1), ("derived", .ref x2)]) = H2 at e02 hN
  clear s1 s2 em hma e01 hat eb ea
  have hln' : Box (ns.length ≤ 100) := ⟨hln⟩
  clear hln
  walk_at "rd"
  rename_i q1 hq1 H3 e3 hq1'
  refine ⟨hln'.un, hss, hq1', by decide, by decide, ne_st hq1 (hst.ex' e02), fun x H4 hx e4 st4 => ?_⟩
  have hln := hln'.un
  obtain ⟨lk, hlk, rfl⟩ : ∃ lk : Int, 0 < lk ∧ x = V.int lk := by
    simp only [List.mem_cons, List.not_mem_nil, or_false] at hx
    rcases hx with rfl | rfl | rfl <;> exact ⟨_, by decide, rfl⟩
  have st3 : StAt H3 sa sc b0 := (hst.ex' e02).ex' e3
  have e24 : Ex TT (ms sa H) (ms sa H4) := by walk_at "up"
  have hP4 : PartsAt H4 (.ref p) N := hP.exM hst e24
  have hN4 : NetAt C H4 (.ref a) N := (hN.ex e3).exM st3 e4
  have hsc4 := sqM hsc hss e24
  clear e02 hN e3 e4 st3 hq1' hx
  walk_at "rd"
  rename_i pa ys pl H5 e5 st5 hpa0 hpa hys po q6 hq6 H6 e6 hq6'
  exact k H6 (.ref a) pa ys pl (by walk_at "up") (by walk_at "up") ((hN4.exM st4 e5).ex e6) (ne_st hpa0 st4) (e6.at hpa) (Rows.tu e6.tu hys) po
theorem one_n {fa c : Addr} {A : Around} {outer : List Env} {s : Shared} {H0 : Hp} {E0 : XK} (T : Tx K mg C) (hr : Room 13 (A.deeper (envOfC "_law_one_right" (C8.fnScope s_l_one_right) s.heap.objs.size fa (.ref c)))) (c_l_next : C8.Cal P w K mg base 3 "_law_next" (sp_l_next TT K) []) (c_l_network : C8.Cal P w K mg base 5 "_law_network" (sp_l_network TT K) [])
    {u : TS} (ht : PSs (oneX P w K mg base fa c A outer s H0 E0) ((C8.fnBody s_l_one_right).drop 1) u) :
    ∃ t, PSs (oneX P w K mg base fa c A outer s H0 E0) (C8.fnBody s_l_one_right) t ∧ ∀ (D : Ends) (H : Hp) (sa sc : Addr) (ns : List Int) (b0 : Int) (u1 u2 u3 u4 u5 u6 u7 u8 u9 u10 u11 u12 u13 u14 u15 u16 u17 : Option V),
      StAt H sa sc b0 → 0 ≤ b0 → SqL K H sc (ns.map V.int) → ns.length ≤ 100 → sc ≠ sa →
      (∀ H' v N h, Ex TT (ms sa H) (ms sa H') → StAt H' sa sc b0 → PartsAt H' v N → NetOk N → 1 ≤ h → h ≤ 12 → u D [some (.ref sa), some v, some (.int h), u3, u4, u5, u6, u7, u8, u9, u10, u11, u12, u13, u14, u15, u16, u17] H') →
      t D [some (.ref sa), u1, u2, u3, u4, u5, u6, u7, u8, u9, u10, u11, u12, u13, u14, u15, u16, u17] H := by
  have nd := sc_l_one_right.nd
  have hu := hu_of hr
  refine ⟨_, (pss_cons (ps_asg (pe_tup (pa_cons (C8.pe_c c_l_network hr (by first | decide | omega) (by rfl) (pa_cons (pv 0) (pa_cons pe_int pa_nil))) (pa_cons (pe_op op_add pe_int (C8.pe_c c_l_next hr (by first | decide | omega) (by rfl) (pa_cons (pv 0) (pa_cons pe_int pa_nil)))) pa_nil))) (pg_tup rfl (pgs_cons (pg_name (i := 1) nd rfl (Or.inr rfl) (by first | exact Or.inr rfl | exact Or.inl rfl)) (pgs_cons (pg_name (i := 2) nd rfl (Or.inr rfl) (by first | exact Or.inr rfl | exact Or.inl rfl)) pgs_nil))))
      ht), ?_⟩
  intro D H sa sc ns b0 u1 u2 u3 u4 u5 u6 u7 u8 u9 u10 u11 u12 u13 u14 u15 u16 u17 hst hb0 hsc hln hss k
  walk_at "rd"
  rename_i v N H1 e1 st1 hP1 ok r H2 hr0 hr1 e2 st2 q hq H3 e3 hq'
  exact k H3 v N (1 + r) (by walk_at "up") (by walk_at "up") ((hP1.exM st1 e2).ex e3) ok (by omega) (by omega)
def sp_l_one_right (K : PySem.W.Frag) : Sp := fun vs H Q _ => ∃ sa sc ns b0, vs = [.ref sa] ∧ StAt H sa sc b0 ∧ 0 ≤ b0 ∧ SqL K H sc ((ns : List Int).map V.int) ∧ ns.length ≤ 100 ∧ sc ≠ sa ∧ LamX.Tabs TT H ∧ ∀ H', Ex TT (ms sa H) (ms sa H') → StAt H' sa sc b0 → Q (.bl true) H'
theorem cal_l_one_right (T : Tx K mg C) (Z : Nx K mg NS) (D : LamB K mg base TT "_law_one_right" s_l_one_right ["_law_state"]) (Dr : DefB K mg "_law_refused" s_l_refused ["_law_ask"])
    (c_l_next : C8.Cal P w K mg base 3 "_law_next" (sp_l_next TT K) []) (c_l_network : C8.Cal P w K mg base 5 "_law_network" (sp_l_network TT K) []) (c_Network : C8.Mak P w K mg base 5 "Network" C (sp_m_init (C := C) TT) []) (c_l_pick : C8.Cal P w K mg base 4 "_law_pick" (sp_l_pick TT K) []) (c_l_plan : C8.Cal P w K mg base 4 "_law_plan" (sp_l_plan TT K) [])
    (c_l_query : C8.Cal P w K mg base 5 "_law_query" (sp_l_query TT K) []) (c_cost : C8.Cal P w K mg base 4 "cost" (sp_cost (C := C) TT) []) (c_is_sufficient : C8.Cal P w K mg base 9 "is_sufficient" (sp_is_sufficient (C := C) TT) []) (c_l_worst : C8.Cal P w K mg base 10 "_law_worst" (sp_l_worst TT) []) (c_l_enough : C8.Cal P w K mg base 11 "_law_enough" (sp_l_enough TT) [])
    (c_slacks : C8.Cal P w K mg base 11 "slacks" (sp_slacks (C := C) TT) []) (c_redundant : C8.Cal P w K mg base 11 "redundant" (sp_redundant (C := C) TT) []) (c_trimmed : C8.Cal P w K mg base 11 "trimmed" (sp_trimmed (C := C) TT) []) (c_delayed : C8.Cal P w K mg base 11 "delayed" (sp_delayed (C := C) TT) [])
    (c_l_trimmed : C8.Cal P w K mg base 12 "_law_trimmed" (sp_l_trimmed TT) []) (c_l_delayed : C8.Cal P w K mg base 12 "_law_delayed" (sp_l_delayed TT) []) (x_slacks : CalX P w K mg base 11 "slacks" (sp_no (C := C) (NS := NS) TT)) (x_redundant : CalX P w K mg base 11 "redundant" (sp_no (C := C) (NS := NS) TT))
    (x_trimmed : CalX P w K mg base 11 "trimmed" (sp_no (C := C) (NS := NS) TT)) (x_delayed : CalX P w K mg base 11 "delayed" (sp_no (C := C) (NS := NS) TT)) : C8.Cal P w K mg base 14 "_law_one_right" (sp_l_one_right TT K) [] := by
  refine cal_ofL D sc_l_one_right (fun vs H Q E h => by obtain ⟨_, _, _, _, rfl, _⟩ := h; rfl) (fun fa c Pt A outer s H0 vs Q E0 TB hmT hu hr h => ?_)
  obtain ⟨sa, sc, ns, b0, rfl, hst, hb0, hsc, hln, hss, hTab, k⟩ := h
  obtain ⟨tc, pc, qc⟩ := one_c (A := A) (outer := outer) (s := s) (H0 := H0) (E0 := E0) TT T hr c_l_worst c_l_enough c_slacks c_redundant c_trimmed c_delayed c_l_trimmed c_l_delayed
  obtain ⟨tb, pb, qb⟩ := one_b TT T Z hr TB hmT hu Dr x_slacks x_redundant x_trimmed x_delayed pc
  obtain ⟨ta, pa, qa⟩ := one_a TT T hr c_cost c_l_enough c_is_sufficient pb
  obtain ⟨tq, pq, qq⟩ := one_q TT T hr c_l_next c_l_query pa
  obtain ⟨tp, pp, qp⟩ := one_p TT T hr c_Network c_l_pick c_l_plan pq
  obtain ⟨tn, pn, qn⟩ := one_n TT T hr c_l_next c_l_network pp
  refine ⟨tn, pn, ?_⟩
  refine qn _ H0 sa sc ns b0 _ _ _ _ _ _ _ _ _ _ _ _ _ _ _ _ _ hst hb0 hsc hln hss fun H1 v N h e1 st1 hP ok h1 h12 => ?_
  have hT1 := Tabs.exM hTab hst st1 e1
  refine qp _ H1 v sa sc ns b0 N h _ _ _ _ _ _ _ _ _ _ _ _ _ _ _ st1 hb0 (sqM hsc hss e1) hln hss hP ok hT1 h1 h12 fun H2 nv pa2 xs pl e2 st2 hN hpa hp hx po => ?_
  refine qq _ H2 v nv pa2 sa sc ns b0 N h pl xs _ _ _ _ _ _ _ _ _ _ _ _ _ st2 hb0 (sqM hsc hss (e1.trans e2)) hln hss (hP.exM st1 e2) ok hN (Tabs.exM hT1 st1 st2 e2) hpa hp hx po h1 h12 fun H3 qa3 xs2 qs e3 st3 o => ?_
  refine qa _ H3 v nv pa2 qa3 sa N h pl qs xs xs2 _ _ _ _ _ _ _ _ _ _ _ _ o fun H4 u6 e4 => ?_
  have o4 := o.ex e4
  have fin : ∀ H', Ex TT H4 H' → Q (.bl true) H' := fun H' e5 => k H' ((e1.trans e2).trans (Ex.thenM (e4.trans e5) st3 e3)) (st3.ex' (e4.trans e5))
  refine qb _ H4 v nv pa2 qa3 sa N h pl qs xs xs2 _ _ _ _ _ _ _ _ _ _ _ o4 ?_
  cases en : N.enough pl qs with
  | false => exact .inl ⟨rfl, fin⟩
  | true =>
    refine .inr ⟨rfl, ?_⟩
    exact qc _ H4 v nv pa2 qa3 sa N h pl qs xs xs2 _ _ _ _ _ _ _ _ _ _ _ _ o4 en fin
end
end Rf
end

set_option Elab.async false
set_option linter.all false
set_option maxRecDepth 100000
set_option maxHeartbeats 4000000
set_option pp.maxSteps 1500
section
open PySem PySem.Spec PyProof.Rows L2 Rf
local macro_rules | `(tactic| walk_at "up") => `(tactic| first | assumption | exact Ex.refl _ | exact upd_same | (apply upd_at; (focus assumption); walk_at "up") | (apply upd_at'; (focus assumption); walk_at "up") | (apply Ex.mutL; (focus (walk_at "up")); (focus (walk_at "up")); walk_at "up") | (apply Ex.mutD; (focus (walk_at "up")); (focus (walk_at "up")); walk_at "up") | (apply Ex.free'; (focus assumption); walk_at "up") | (apply Ex.atT; (focus assumption); walk_at "up") | (apply Ex.atL; (focus assumption); walk_at "up") | (apply Ex.atD; (focus assumption); walk_at "up") | (apply Ex.atI; (focus assumption); walk_at "up") | (apply Ex.atF; (focus assumption); walk_at "up") | (apply Ex.then'; (focus assumption); walk_at "up") | (apply NetAt.ex; (focus assumption); walk_at "up") | (apply PartsAt.ex; (focus assumption); walk_at "up") | (apply PlanAt.ex; (focus assumption); walk_at "up") | (apply QrsAt.ex; (focus assumption); walk_at "up") | (apply SrcD.ex; (focus assumption); walk_at "up") | (apply VwD.ex; (focus assumption); walk_at "up") | (apply SeqIs.ex; (focus assumption); walk_at "up") | (apply NetAt.ex'; (focus assumption); walk_at "up") | (apply PartsAt.ex'; (focus assumption); walk_at "up") | (apply PlanAt.ex'; (focus assumption); walk_at "up") | (apply QrsAt.ex'; (focus assumption); walk_at "up") | (apply SrcD.ex'; (focus assumption); walk_at "up") | (apply VwD.ex'; (focus assumption); walk_at "up") | (apply SeqIs.ex'; (focus assumption); walk_at "up") | (apply Ex.atT'; (focus assumption); walk_at "up") | (apply Ex.atL'; (focus assumption); walk_at "up") | (apply Ex.atD'; (focus assumption); walk_at "up") | (apply Ex.atI'; (focus assumption); walk_at "up") | (with_reducible apply FrmAt.ex'; (focus assumption); walk_at "up") | (with_reducible apply VwAt.ex'; (focus assumption); walk_at "up") | (with_reducible apply RowAt.ex'; (focus assumption); walk_at "up") | (with_reducible apply SrcAt.ex'; (focus assumption); walk_at "up") | (with_reducible apply QryAt.ex'; (focus assumption); walk_at "up") | (with_reducible apply Rows.ex'; (focus assumption); walk_at "up") | (with_reducible apply StAt.exE; (focus assumption); walk_at "up") | (with_reducible apply sqU; (focus assumption); assumption) | (with_reducible apply sqE; (focus assumption); walk_at "up") | (with_reducible apply sqM; (focus assumption); (focus (walk_at "ne")); walk_at "up") | (with_reducible apply Ex.tabs'; (focus assumption); walk_at "up") | (with_reducible apply Ex.thenM; (focus assumption); (focus (walk_at "up")); walk_at "up") | (with_reducible apply Ex.thenMM; (focus assumption); walk_at "up") | (with_reducible apply atML; (focus assumption); (focus (walk_at "ne")); walk_at "up") | (with_reducible apply atMD; (focus assumption); (focus (walk_at "ne")); walk_at "up") | (with_reducible apply atMT; (focus assumption); (focus (walk_at "ne")); walk_at "up"))
local macro_rules | `(tactic| walk_at "ne") => `(tactic| first | assumption | (apply ne_st; (focus assumption); (walk_at "up")))
local macro_rules | `(tactic| walk_at "sv") => `(tactic| first | rfl | assumption | exact Ex.refl _ | exact ClsV.ty _ | (apply TyX.base; first | exact TyOf.int _ | exact TyOf.str _ | exact TyOf.bl _ | (apply TyOf.tup; walk_at "up") | (apply TyOf.lst; walk_at "up") | (apply TyOf.dK; walk_at "up")) | exact kit_ty (by decide +kernel) | (apply Rd.of; walk_at "up") | (apply DGet_some; (focus (walk_at "up")); assumption) | (apply DGet_f; (focus (walk_at "up")); assumption) | (apply DGet_s; walk_at "up") | (apply DPut_s; (focus (walk_at "up")); omega) | (apply sz5; simp only [List.length_map, List.length_append, List.length_cons, List.length_nil]; omega) | (apply sz4; simp only [List.length_map, List.length_append, List.length_cons, List.length_nil]; omega) | (apply SqL.of; walk_at "up") | (apply SqT.of; walk_at "up") | (apply Or.inl; apply SqL.of; walk_at "up") | (apply Or.inr; apply SqT.of; walk_at "up") | (apply Exists.intro; first | (apply SqL.of; walk_at "up") | (apply SqT.of; walk_at "up")) | exact flatStrs _ | (apply dp_nil; walk_at "up") | (apply dp_strs; walk_at "up") | (apply dp_ints; walk_at "up") | (apply dp_row; walk_at "up") | (apply dp_rowL; walk_at "up") | (apply dp_rows; (focus (walk_at "up")); walk_at "up") | exact shaped_nil | exact shaped_ints | (apply shaped_strs; assumption) | (apply shaped_rows; assumption) | (apply shaped_row; assumption) | (with_reducible apply RowAt.mk; walk_at "up") | (apply tyL; walk_at "up") | (apply tyD; walk_at "up") | (with_reducible apply cmul_r; constructor <;> omega) | (with_reducible apply cmul_l; constructor <;> omega) | (with_reducible apply cdiv_i; constructor <;> omega) | walk_at "up" | (with_reducible apply ne_st; (focus assumption); walk_at "up") | omega | (dsimp only; omega) | decide | (simp only [List.length_map, List.length_append, List.length_cons, List.length_nil]; omega))
local macro_rules | `(tactic| walk_at "cn") => `(tactic| first | assumption | omega | (dsimp only; omega) | (simp only [List.length_map, List.length_append, List.length_cons, List.length_nil, List.length_reverse]; omega) | decide)
local macro_rules | `(tactic| walk_at "rd") => `(tactic| first
  | (with_reducible show LcGo _ _ _ _ _ _ _ _)
  | (with_reducible show DcGo _ _ _ _ _ _ _ _ _)
  | (with_reducible show ForGo _ _ _ _ _ _)
  | (refine allocI (fun p hp => ?_); generalize hh : upd _ _ _ = H2; have e := exNew (T := ‹Tb›) hh hp; have h := updAt hh; clear hh; walk_at "rd")
  | (apply And.intro; (focus (walk_at "sv")); walk_at "rd")
  | (apply Exists.intro; walk_at "rd")
  | (refine iteY ?_ ?_; (focus (walk_at "cn")); walk_at "rd")
  | (refine iteN ?_ ?_; (focus (walk_at "cn")); walk_at "rd")
  | (refine iteY' ?_ ?_; (focus (walk_at "cn")); walk_at "rd")
  | (refine iteN' ?_ ?_; (focus (walk_at "cn")); walk_at "rd")
  | (refine iteBt ?_ ?_; (focus (first | assumption | decide +kernel)); walk_at "rd")
  | (refine iteBf ?_ ?_; (focus (first | assumption | decide +kernel)); walk_at "rd")
  | (intro _; walk_at "rd") | skip)
namespace Rf
open NdefX LamX
section
variable {X : Cx} {es : List Expr} {t : TA} {pos : Pos}
/-- a new list stands at no place of the module -/
theorem pe_lstN (h : PA X es t) : PE X (.List es pos) (fun σ H Q => t σ H fun xs H1 => xs.length ≤ sizeLine ∧ ∀ p, H1 p = none → X.K.lookup p = none → Q (.ref p) (upd H1 p (.lst xs))) := by
  refine ⟨fun pins s σ H Q I hq => ?_⟩
  refine wpAny_List_spliced (thn (h.run pos pins s σ H _ I hq) fun us s1 hv => ?_)
  obtain ⟨xs, H1, I1, r, z, q⟩ := hv
  have hz : us.length ≤ sizeLine := by rw [← r.length]; exact z
  refine ⟨hz, ?_⟩
  have hn : H1 s1.heap.objs.size = none := I1.hok.fresh (Nat.le_refl _)
  have hk : X.K.lookup s1.heap.objs.size = none := by
    cases e : X.K.lookup s1.heap.objs.size with
    | none => rfl
    | some o => exact absurd (Heap.lt_size (I1.kIn _ _ e)) (Nat.lt_irrefl _)
  exact ⟨.ref s1.heap.objs.size, upd H1 s1.heap.objs.size (.lst xs), I1.laid (t' := s1.toks) (fun b u e => Heap.get?_push_of_some _ e) (Nat.le_refl _) ⟨z, us, 0, r, Heap.get?_push_size _ rfl⟩, rfl, q _ hn hk⟩
end
section
variable {P : Program} {w : World} {K : PySem.W.Frag} {mg : Str → Option Value} {base : Heap} (TT : Tb) {C : Addr}
/-- the script is not the new list -/
theorem scr_ne {H : Hp} {sc sa : Addr} {xs : List V} (h : SqL K H sc xs) (n : H sa = none) (k : K.lookup sa = none) : sc ≠ sa := by
  rintro rfl
  rcases h with (h | ⟨o, h⟩) | ⟨o, its, n', h, _⟩
  · rw [n] at h; cases h
  · rw [n] at h; cases h
  · rw [k] at h; cases h
def sp_law (K : PySem.W.Frag) : Sp := fun vs H Q _ => ∃ sc ns, vs = [.ref sc] ∧ SqL K H sc ((ns : List Int).map V.int) ∧ ns.length ≤ 100 ∧ LamX.Tabs TT H ∧ ∀ H', Q (.bl true) H'
theorem fn_law {fa : Addr} {fd : FuncData} (T : Tx K mg C) (D : C8.Def K mg "law" s_law fa fd) (c_l_one_right : C8.Cal P w K mg base 14 "_law_one_right" (sp_l_one_right TT K) []) : FnOk P w K mg base C8.CX0 15 fa fd ["_law_script"] (sp_law TT K) := by
  refine C8.fn0 D.fn sc_law (fun vs H Q E h => by obtain ⟨_, _, rfl, _⟩ := h; rfl) (fun cdv A outer s H vs Q E hr h => ?_)
  obtain ⟨sc, ns, rfl, hsc, hln, hTab, k⟩ := h
  have nd := sc_law.nd
  have hu := hu_of hr
  have hL : (ns.map V.int).length = ns.length := List.length_map _
  have hsq : SqL K H sc (ns.map V.int) ∨ SqT K H sc (ns.map V.int) := .inl hsc
  have hM : ∀ M : Int, 1 ≤ M → M ≤ 24 → Builtin.Range.small 0 M 4 = true ∧ Builtin.Range.rangeSize 0 M 4 = (((M.toNat + 3) / 4 : Nat) : Int) := by
    intro M h1 h2
    have all : ∀ m : Nat, m < 25 → Builtin.Range.small 0 (m : Int) 4 = true ∧ Builtin.Range.rangeSize 0 (m : Int) 4 = (((m + 3) / 4 : Nat) : Int) := by decide +kernel
    have := all M.toNat (by omega)
    rwa [Int.toNat_of_nonneg (by omega)] at this
  obtain ⟨hsm, hsz⟩ := hM (if (if ((List.map V.int ns).length : Int) < 24 then ((List.map V.int ns).length : Int) else 24) > 1 then (if ((List.map V.int ns).length : Int) < 24 then ((List.map V.int ns).length : Int) else 24) else 1) (by split <;> omega) (by split <;> (try split) <;> omega)
  refine ⟨_, (pss_cons (forX (ps_for PassesOwn.never rfl (pi_range3 (by rfl) T.n_range (pa_cons pe_int (pa_cons (pe_callB (call_max2 rfl) (by rfl) T.n_max (by decide +kernel) (pa_cons pe_int (pa_cons (pe_callB (call_min2 rfl) (by rfl) T.n_min (by decide +kernel) (pa_cons pe_int (pa_cons (pe_callB call_len_seq (by rfl) T.n_len (by decide +kernel) (pa_cons (pv 0) pa_nil)) pa_nil))) pa_nil))) (pa_cons pe_int pa_nil)))) (pg_name (i := 1) nd rfl (Or.inl rfl) (by first | exact Or.inr rfl | exact Or.inl rfl))
    (pss_one (ps_if (pt_not (pt_val (C8.pe_c c_l_one_right hr (by first | decide | omega) (by rfl) (pa_cons (pe_lstN (pa_cons (pv 0) (pa_cons (pv 1) (pa_cons pe_int pa_nil)))) pa_nil)))) (pss_one (ps_ret pe_bl)) pss_nil))))
    (pss_one (ps_ret pe_bl))), ?_⟩
  walk_at "rd"
  refine ⟨⟨by decide, by decide, hsm, hsz⟩, ?_⟩
  refine for_goB walk_rangeC (fun i σ Hc => ∃ u1, σ = [some (.ref sc), u1] ∧ SqL K Hc sc (ns.map V.int) ∧ LamX.Tabs TT Hc) ⟨_, rfl, hsc, hTab⟩ (fun _ _ _ _ _ => trivial) ?_ ?_
  · rintro i y σ Hc Hc' hi ⟨u1, rfl, hs, ht⟩ yy
    obtain ⟨rfl, hy⟩ := yy
    have hy : y = V.int (0 + (i : Nat) * 4) := hy
    subst hy
    walk_at "rd"
    rename_i sa hsa H2 e2 h2 hk
    have hne : sc ≠ sa := scr_ne hs hsa hk
    have st2 : StAt H2 sa sc (0 + (i : Nat) * 4) := ⟨0, Int.le_refl 0, h2⟩
    refine ⟨st2, by omega, sqE hs e2, hln, hne, e2.tb ht, fun H' em st => ?_⟩
    walk_at "rd"
    exact ⟨⟨_, rfl, sqM (sqE hs e2) hne em, Tabs.exM (e2.tb ht) st2 st em⟩⟩
  · rintro σ Hc ⟨u1, rfl, hs, ht⟩
    walk_at "rd"
    exact k _
end
end Rf
end

set_option Elab.async false
set_option linter.all false
set_option maxRecDepth 100000
set_option maxHeartbeats 4000000
set_option pp.maxSteps 1500
section
open PySem PySem.Spec PyProof.Rows L2 Rf
local macro_rules | `(tactic| walk_at "up") => `(tactic| first | assumption | exact Ex.refl _ | exact upd_same | (apply upd_at; (focus assumption); walk_at "up") | (apply upd_at'; (focus assumption); walk_at "up") | (apply Ex.mutL; (focus (walk_at "up")); (focus (walk_at "up")); walk_at "up") | (apply Ex.mutD; (focus (walk_at "up")); (focus (walk_at "up")); walk_at "up") | (apply Ex.free'; (focus assumption); walk_at "up") | (apply Ex.atT; (focus assumption); walk_at "up") | (apply Ex.atL; (focus assumption); walk_at "up") | (apply Ex.atD; (focus assumption); walk_at "up") | (apply Ex.atI; (focus assumption); walk_at "up") | (apply Ex.atF; (focus assumption); walk_at "up") | (apply Ex.then'; (focus assumption); walk_at "up") | (apply NetAt.ex; (focus assumption); walk_at "up") | (apply PartsAt.ex; (focus assumption); walk_at "up") | (apply PlanAt.ex; (focus assumption); walk_at "up") | (apply QrsAt.ex; (focus assumption); walk_at "up") | (apply SrcD.ex; (focus assumption); walk_at "up") | (apply VwD.ex; (focus assumption); walk_at "up") | (apply SeqIs.ex; (focus assumption); walk_at "up") | (apply NetAt.ex'; (focus assumption); walk_at "up") | (apply PartsAt.ex'; (focus assumption); walk_at "up") | (apply PlanAt.ex'; (focus assumption); walk_at "up") | (apply QrsAt.ex'; (focus assumption); walk_at "up") | (apply SrcD.ex'; (focus assumption); walk_at "up") | (apply VwD.ex'; (focus assumption); walk_at "up") | (apply SeqIs.ex'; (focus assumption); walk_at "up") | (apply Ex.atT'; (focus assumption); walk_at "up") | (apply Ex.atL'; (focus assumption); walk_at "up") | (apply Ex.atD'; (focus assumption); walk_at "up") | (apply Ex.atI'; (focus assumption); walk_at "up") | (with_reducible apply FrmAt.ex'; (focus assumption); walk_at "up") | (with_reducible apply VwAt.ex'; (focus assumption); walk_at "up") | (with_reducible apply RowAt.ex'; (focus assumption); walk_at "up") | (with_reducible apply SrcAt.ex'; (focus assumption); walk_at "up") | (with_reducible apply QryAt.ex'; (focus assumption); walk_at "up") | (with_reducible apply Rows.ex'; (focus assumption); walk_at "up") | (with_reducible apply StAt.exE; (focus assumption); walk_at "up") | (with_reducible apply sqU; (focus assumption); assumption) | (with_reducible apply sqE; (focus assumption); walk_at "up") | (with_reducible apply sqM; (focus assumption); (focus (walk_at "ne")); walk_at "up") | (with_reducible apply Ex.tabs'; (focus assumption); walk_at "up") | (with_reducible apply Ex.thenM; (focus assumption); (focus (walk_at "up")); walk_at "up") | (with_reducible apply Ex.thenMM; (focus assumption); walk_at "up") | (with_reducible apply atML; (focus assumption); (focus (walk_at "ne")); walk_at "up") | (with_reducible apply atMD; (focus assumption); (focus (walk_at "ne")); walk_at "up") | (with_reducible apply atMT; (focus assumption); (focus (walk_at "ne")); walk_at "up"))
local macro_rules | `(tactic| walk_at "ne") => `(tactic| first | assumption | (apply ne_st; (focus assumption); (walk_at "up")))
local macro_rules | `(tactic| walk_at "sv") => `(tactic| first | rfl | assumption | exact Ex.refl _ | exact ClsV.ty _ | (apply TyX.base; first | exact TyOf.int _ | exact TyOf.str _ | exact TyOf.bl _ | (apply TyOf.tup; walk_at "up") | (apply TyOf.lst; walk_at "up") | (apply TyOf.dK; walk_at "up")) | exact kit_ty (by decide +kernel) | (apply Rd.of; walk_at "up") | (apply DGet_some; (focus (walk_at "up")); assumption) | (apply DGet_f; (focus (walk_at "up")); assumption) | (apply DGet_s; walk_at "up") | (apply DPut_s; (focus (walk_at "up")); omega) | (apply sz5; simp only [List.length_map, List.length_append, List.length_cons, List.length_nil]; omega) | (apply sz4; simp only [List.length_map, List.length_append, List.length_cons, List.length_nil]; omega) | (apply SqL.of; walk_at "up") | (apply SqT.of; walk_at "up") | (apply Or.inl; apply SqL.of; walk_at "up") | (apply Or.inr; apply SqT.of; walk_at "up") | (apply Exists.intro; first | (apply SqL.of; walk_at "up") | (apply SqT.of; walk_at "up")) | exact flatStrs _ | (apply dp_nil; walk_at "up") | (apply dp_strs; walk_at "up") | (apply dp_ints; walk_at "up") | (apply dp_row; walk_at "up") | (apply dp_rowL; walk_at "up") | (apply dp_rows; (focus (walk_at "up")); walk_at "up") | exact shaped_nil | exact shaped_ints | (apply shaped_strs; assumption) | (apply shaped_rows; assumption) | (apply shaped_row; assumption) | (with_reducible apply RowAt.mk; walk_at "up") | (apply tyL; walk_at "up") | (apply tyD; walk_at "up") | (with_reducible apply cmul_r; constructor <;> omega) | (with_reducible apply cmul_l; constructor <;> omega) | (with_reducible apply cdiv_i; constructor <;> omega) | walk_at "up" | (with_reducible apply ne_st; (focus assumption); walk_at "up") | omega | (dsimp only; omega) | decide | (simp only [List.length_map, List.length_append, List.length_cons, List.length_nil]; omega))
local macro_rules | `(tactic| walk_at "cn") => `(tactic| first | assumption | omega | (dsimp only; omega) | (simp only [List.length_map, List.length_append, List.length_cons, List.length_nil, List.length_reverse]; omega) | decide)
local macro_rules | `(tactic| walk_at "rd") => `(tactic| first
  | (with_reducible show LcGo _ _ _ _ _ _ _ _)
  | (with_reducible show DcGo _ _ _ _ _ _ _ _ _)
  | (with_reducible show ForGo _ _ _ _ _ _)
  | (refine allocI (fun p hp => ?_); generalize hh : upd _ _ _ = H2; have e := exNew (T := ‹Tb›) hh hp; have h := updAt hh; clear hh; walk_at "rd")
  | (apply And.intro; (focus (walk_at "sv")); walk_at "rd")
  | (apply Exists.intro; walk_at "rd")
  | (refine iteY ?_ ?_; (focus (walk_at "cn")); walk_at "rd")
  | (refine iteN ?_ ?_; (focus (walk_at "cn")); walk_at "rd")
  | (refine iteY' ?_ ?_; (focus (walk_at "cn")); walk_at "rd")
  | (refine iteN' ?_ ?_; (focus (walk_at "cn")); walk_at "rd")
  | (refine iteBt ?_ ?_; (focus (first | assumption | decide +kernel)); walk_at "rd")
  | (refine iteBf ?_ ?_; (focus (first | assumption | decide +kernel)); walk_at "rd")
  | (intro _; walk_at "rd") | skip)
namespace Rf
open NdefX LamX
/-- the names of the text as the promises want them -/
structure AllD (K : PySem.W.Frag) (mg : Str → Option Value) (base : Heap) (C NS : Addr) (TT : Tb) : Prop where
  T : Tx K mg C
  Z : Nx K mg NS
  d_ages_of : DefB K mg "ages_of" s_ages_of ["network", "plan", "query"]
  d_bounds_of : DefB K mg "bounds_of" s_bounds_of ["network", "plan", "query"]
  d_check_asked : DefB K mg "check_asked" s_check_asked ["network", "horizon", "plan", "queries"]
  d_check_horizon : DefB K mg "check_horizon" s_check_horizon ["network", "horizon"]
  d_check_network : DefB K mg "check_network" s_check_network ["network"]
  d_check_plan : DefB K mg "check_plan" s_check_plan ["network", "horizon", "plan"]
  d_check_queries : DefB K mg "check_queries" s_check_queries ["network", "horizon", "queries"]
  d_check_query : DefB K mg "check_query" s_check_query ["network", "horizon", "query"]
  d_check_sufficient : DefB K mg "check_sufficient" s_check_sufficient ["network", "horizon", "plan", "queries"]
  d_combined : DefB K mg "combined" s_combined ["formula", "errors"]
  d_cost : DefB K mg "cost" s_cost ["network", "horizon", "plan"]
  d_cost_of : DefB K mg "cost_of" s_cost_of ["network", "refreshes"]
  d_delayed : DefB K mg "delayed" s_delayed ["network", "horizon", "plan", "queries"]
  d_inputs_of : DefB K mg "inputs_of" s_inputs_of ["formula"]
  d_is_enough : DefB K mg "is_enough" s_is_enough ["network", "plan", "queries"]
  d_is_formula : DefB K mg "is_formula" s_is_formula ["value"]
  d_is_integer : DefB K mg "is_integer" s_is_integer ["value", "low", "high"]
  d_is_name : DefB K mg "is_name" s_is_name ["value"]
  d_is_pair : DefB K mg "is_pair" s_is_pair ["value"]
  d_is_query : DefB K mg "is_query" s_is_query ["network", "horizon", "value"]
  d_is_refresh : DefB K mg "is_refresh" s_is_refresh ["network", "horizon", "value"]
  d_is_source : DefB K mg "is_source" s_is_source ["name", "value"]
  d_is_sufficient : DefB K mg "is_sufficient" s_is_sufficient ["network", "horizon", "plan", "queries"]
  d_is_term : DefB K mg "is_term" s_is_term ["value"]
  d_is_view : DefB K mg "is_view" s_is_view ["name", "value", "known", "free"]
  d_joined : DefB K mg "joined" s_joined ["parts"]
  d_l_ages : DefB K mg "_law_ages" s_l_ages ["_law_parts", "_law_plan_here", "_law_query_here"]
  d_l_cell_at : DefB K mg "_law_cell_at" s_l_cell_at ["_law_script", "_law_k"]
  d_l_delayed : DefB K mg "_law_delayed" s_l_delayed ["_law_parts", "_law_horizon", "_law_plan_here", "_law_queries"]
  d_l_draw : DefB K mg "_law_draw" s_l_draw ["_law_cell", "_law_k", "_law_below"]
  d_l_enough : DefB K mg "_law_enough" s_l_enough ["_law_parts", "_law_plan_here", "_law_queries"]
  d_l_error : DefB K mg "_law_error" s_l_error ["_law_parts", "_law_spans", "_law_name"]
  d_l_inputs : DefB K mg "_law_inputs" s_l_inputs ["_law_parts", "_law_name"]
  d_l_network : DefB K mg "_law_network" s_l_network ["_law_state", "_law_most"]
  d_l_next : DefB K mg "_law_next" s_l_next ["_law_state", "_law_below"]
  d_l_number : DefB K mg "_law_number" s_l_number ["_law_cell", "_law_k", "_law_below"]
  d_l_one_right : LamB K mg base TT "_law_one_right" s_l_one_right ["_law_state"]
  d_l_order : LamB K mg base TT "_law_order" s_l_order ["_law_parts", "_law_refreshes"]
  d_l_pick : DefB K mg "_law_pick" s_l_pick ["_law_state", "_law_things"]
  d_l_plan : DefB K mg "_law_plan" s_l_plan ["_law_state", "_law_parts", "_law_horizon", "_law_luck"]
  d_l_query : DefB K mg "_law_query" s_l_query ["_law_state", "_law_parts", "_law_horizon"]
  d_l_refused : DefB K mg "_law_refused" s_l_refused ["_law_ask"]
  d_l_trimmed : DefB K mg "_law_trimmed" s_l_trimmed ["_law_parts", "_law_plan_here", "_law_queries"]
  d_l_under : DefB K mg "_law_under" s_l_under ["_law_parts", "_law_name"]
  d_l_worst : DefB K mg "_law_worst" s_l_worst ["_law_parts", "_law_plan_here", "_law_query_here"]
  d_m_below : MetB K C "below" "Network.below" s_m_below ["self", "name"]
  d_m_inputs : MetB K C "inputs" "Network.inputs" s_m_inputs ["self", "name"]
  d_m_names : MetB K C "names" "Network.names" s_m_names ["self"]
  d_m_price : MetB K C "price" "Network.price" s_m_price ["self", "name"]
  d_m_sources : MetB K C "sources" "Network.sources" s_m_sources ["self"]
  d_m_views : MetB K C "views" "Network.views" s_m_views ["self"]
  d_network : MakB K mg C
  d_redundant : DefB K mg "redundant" s_redundant ["network", "horizon", "plan", "queries"]
  d_refresh_key : DefB K mg "refresh_key" s_refresh_key ["network", "refresh"]
  d_slacks : DefB K mg "slacks" s_slacks ["network", "horizon", "plan", "queries"]
  d_sorted_plan : LamB K mg base TT "sorted_plan" s_sorted_plan ["network", "refreshes"]
  d_stamps_of : DefB K mg "stamps_of" s_stamps_of ["network", "plan", "tick"]
  d_trimmed : DefB K mg "trimmed" s_trimmed ["network", "horizon", "plan", "queries"]
  d_without : DefB K mg "without" s_without ["plan", "refresh"]
  d_worst_of : DefB K mg "worst_of" s_worst_of ["network", "plan", "query"]
theorem one_cal {P : Program} {w : World} {K : PySem.W.Frag} {mg : Str → Option Value} {base : Heap} {C NS : Addr} {TT : Tb} (a : AllD K mg base C NS TT) : C8.Cal P w K mg base 14 "_law_one_right" (sp_l_one_right TT K) [] := by
  have c_is_integer := cal_is_integer (P := P) (w := w) (base := base) a.T a.d_is_integer
  have c_is_name := cal_is_name (P := P) (w := w) (base := base) TT a.T a.d_is_name
  have c_is_pair := cal_is_pair (P := P) (w := w) (base := base) a.T a.d_is_pair
  have c_is_source := cal_is_source (P := P) (w := w) (base := base) TT a.T a.d_is_source c_is_name c_is_pair c_is_integer
  have c_is_term := cal_is_term (P := P) (w := w) (base := base) a.T a.d_is_term c_is_pair c_is_integer
  have c_inputs_of := cal_inputs_of (P := P) (w := w) (base := base) TT a.T a.d_inputs_of
  have c_combined := cal_combined (P := P) (w := w) (base := base) TT a.T a.d_combined
  have c_l_cell_at := cal_l_cell_at (P := P) (w := w) (base := base) a.T a.d_l_cell_at
  have c_l_draw := cal_l_draw (P := P) (w := w) (base := base) TT a.T a.d_l_draw
  have c_l_number := cal_l_number (P := P) (w := w) (base := base) TT a.T a.d_l_number c_l_draw
  have c_l_next := cal_l_next (P := P) (w := w) (base := base) TT a.T a.d_l_next c_l_cell_at c_l_number
  have c_l_pick := cal_l_pick (P := P) (w := w) (base := base) TT a.T a.d_l_pick c_l_next
  have c_l_query := cal_l_query (P := P) (w := w) (base := base) TT a.T a.d_l_query c_l_next c_l_pick
  have c_check_network := cal_check_network (P := P) (w := w) (base := base) a.T a.d_check_network
  have c_check_horizon := cal_check_horizon (P := P) (w := w) (base := base) a.T a.d_check_horizon c_check_network c_is_integer
  have c_l_order := cal_l_order (P := P) (w := w) (base := base) TT a.T a.d_l_order
  have c_l_inputs := cal_l_inputs (P := P) (w := w) (base := base) TT a.T a.d_l_inputs
  have c_l_under := cal_l_under (P := P) (w := w) (base := base) TT a.T a.d_l_under c_l_inputs 5
  have c_without := cal_without (P := P) (w := w) (base := base) TT a.T a.d_without
  have c_l_network := cal_l_network (P := P) (w := w) (base := base) TT a.T a.d_l_network c_l_next c_l_pick
  have c_l_error := cal_l_error (P := P) (w := w) (base := base) TT a.T a.d_l_error 5
  have c_is_formula := cal_is_formula (P := P) (w := w) (base := base) TT a.T a.d_is_formula c_is_pair c_is_term
  have c_m_sources := met_sources (P := P) (w := w) (base := base) TT a.T a.d_m_sources
  have c_m_views := met_views (P := P) (w := w) (base := base) TT a.T a.d_m_views
  have c_m_names := met_names (P := P) (w := w) (base := base) TT a.T a.d_m_names
  have c_m_inputs := met_inputs (P := P) (w := w) (base := base) TT a.T a.d_m_inputs c_inputs_of
  have c_m_price := met_price (P := P) (w := w) (base := base) a.T a.d_m_price
  have c_cost_of := cal_cost_of (P := P) (w := w) (base := base) TT a.T a.d_cost_of c_m_price
  have c_joined := cal_joined (P := P) (w := w) (base := base) TT a.T a.d_joined
  have c_l_plan := cal_l_plan (P := P) (w := w) (base := base) TT a.T a.d_l_plan c_l_next
  have c_l_ages := cal_l_ages (P := P) (w := w) (base := base) TT a.T a.d_l_ages c_l_inputs c_l_under
  have c_m_below := met_below (P := P) (w := w) (base := base) TT a.T a.d_m_below c_m_names c_m_inputs
  have c_is_view := cal_is_view (P := P) (w := w) (base := base) TT a.T a.d_is_view c_is_name c_is_pair c_is_integer c_is_formula c_inputs_of
  have c_refresh_key := cal_refresh_key (P := P) (w := w) (base := base) TT a.T a.d_refresh_key c_m_names
  have c_is_refresh := cal_is_refresh (P := P) (w := w) (base := base) TT a.T a.d_is_refresh c_m_names c_is_integer
  have c_is_query := cal_is_query (P := P) (w := w) (base := base) TT a.T a.d_is_query c_m_names c_is_integer
  have c_check_query := cal_check_query (P := P) (w := w) (base := base) TT a.T a.d_check_query c_is_query
  have c_sorted_plan := cal_sorted_plan (P := P) (w := w) (base := base) TT a.T a.d_sorted_plan c_refresh_key
  have c_l_worst := cal_l_worst (P := P) (w := w) (base := base) TT a.T a.d_l_worst c_l_ages c_l_error
  have c_l_enough := cal_l_enough (P := P) (w := w) (base := base) TT a.T a.d_l_enough c_l_worst
  have c_check_plan := cal_check_plan (P := P) (w := w) (base := base) TT a.T a.d_check_plan c_is_refresh c_refresh_key
  have c_check_queries := cal_check_queries (P := P) (w := w) (base := base) TT a.T a.d_check_queries c_check_query
  have c_cost := cal_cost (P := P) (w := w) (base := base) TT a.T a.d_cost c_cost_of c_check_horizon c_check_plan
  have c_check_asked := cal_check_asked (P := P) (w := w) (base := base) TT a.T a.d_check_asked c_check_horizon c_check_plan c_check_queries
  have c_stamps_of := cal_stamps_of (P := P) (w := w) (base := base) TT a.T a.d_stamps_of c_joined c_m_names c_m_inputs c_m_sources c_m_below
  have c_Network := mak_network (P := P) (w := w) (base := base) TT a.T a.d_network c_is_source c_is_view c_inputs_of
  have c_l_delayed := cal_l_delayed (P := P) (w := w) (base := base) TT a.T a.d_l_delayed c_l_enough c_l_order
  have c_l_trimmed := cal_l_trimmed (P := P) (w := w) (base := base) TT a.T a.d_l_trimmed c_l_enough
  have c_ages_of := cal_ages_of (P := P) (w := w) (base := base) TT a.T a.d_ages_of c_stamps_of c_m_sources
  have c_bounds_of := cal_bounds_of (P := P) (w := w) (base := base) TT a.T a.d_bounds_of c_ages_of c_combined c_m_names c_m_views c_m_sources c_m_below
  have c_worst_of := cal_worst_of (P := P) (w := w) (base := base) TT a.T a.d_worst_of c_bounds_of
  have c_is_enough := cal_is_enough (P := P) (w := w) (base := base) TT a.T a.d_is_enough c_worst_of
  have c_is_sufficient := cal_is_sufficient (P := P) (w := w) (base := base) TT a.T a.d_is_sufficient c_check_asked c_is_enough
  have x_check_sufficient := calx_check_sufficient (P := P) (w := w) (base := base) TT a.T a.Z a.d_check_sufficient c_is_sufficient
  have x_slacks := calx_slacks (P := P) (w := w) (base := base) TT a.d_slacks x_check_sufficient
  have x_redundant := calx_redundant (P := P) (w := w) (base := base) TT a.d_redundant x_check_sufficient
  have x_trimmed := calx_trimmed (P := P) (w := w) (base := base) TT a.d_trimmed x_check_sufficient
  have x_delayed := calx_delayed (P := P) (w := w) (base := base) TT a.d_delayed x_check_sufficient
  have c_check_sufficient := cal_check_sufficient (P := P) (w := w) (base := base) TT a.T a.d_check_sufficient c_is_sufficient
  have c_slacks := cal_slacks (P := P) (w := w) (base := base) TT a.T a.d_slacks c_check_sufficient c_worst_of
  have c_redundant := cal_redundant (P := P) (w := w) (base := base) TT a.T a.d_redundant c_check_sufficient c_is_enough c_without
  have c_trimmed := cal_trimmed (P := P) (w := w) (base := base) TT a.T a.d_trimmed c_check_sufficient c_is_enough c_without
  have c_delayed := cal_delayed (P := P) (w := w) (base := base) TT a.T a.d_delayed c_check_sufficient c_is_enough c_without c_sorted_plan
  have c_l_one_right := cal_l_one_right (P := P) (w := w) (base := base) TT a.T a.Z a.d_l_one_right a.d_l_refused c_l_next c_l_network c_Network c_l_pick c_l_plan c_l_query c_cost c_is_sufficient c_l_worst c_l_enough c_slacks c_redundant c_trimmed c_delayed c_l_trimmed c_l_delayed x_slacks x_redundant x_trimmed x_delayed
  exact c_l_one_right
section
variable {K : PySem.W.Frag} {mg : Str → Option Value} {base h : Heap}
theorem dfl_none {dV : Value} (d : DflV K dV []) : dV = .none := by
  rcases d with ⟨_, e⟩ | ⟨z, _⟩
  · exact e
  · exact absurd rfl z
theorem def_of {x : Str} {st : Stmt} (c : He.SaysD hfa hfn K) (X : K.In h) (G : h.Ns mainGlobals mg) (i j : Nat) (hd : hfn[i]? = some (dF x st)) (hg : hfa[j]? = some (.glo x)) : ∃ fd, C8.Def K mg x st (He.ga K x) fd ∧ fd.defaults = .none ∧ ∃ c, fd.code = .ref c ∧ He.codeOf K (x, none) = c := by
  obtain ⟨fd, ⟨oc, od, dV, kV, doc, pm, an, cdv, ct, osl, rfl, lk, hin, hdf, hkw⟩, kp⟩ := c.def_ i hd
  obtain ⟨cc, ecc⟩ := He.codeIn_ref hin
  exact ⟨_, ⟨⟨oc, od, dV, kV, doc, pm, an, cdv, ct, osl, rfl, lk, hin⟩, He.glo_ok X G (c.fact j hg), kp⟩, dfl_none hdf, cc, ecc, He.codeOf_eq (p := (x, none)) lk ecc⟩
theorem defB_of {x : Str} {st : Stmt} {ps : List Str} (c : He.SaysD hfa hfn K) (X : K.In h) (G : h.Ns mainGlobals mg) (i j : Nat) (hd : hfn[i]? = some (dF x st)) (hg : hfa[j]? = some (.glo x))
    (hb : ∀ (kV doc pm : Value) (an : Option Addr) (cdv ct : Value) (us : List Value), us.length = ps.length → bindArgs (PySem.W.fnOf x x (C8.fnArgs st) (C8.fnBody st) (C8.fnScope st) .none kV doc pm an cdv ct) ⟨us, []⟩ = pure (ps.zip us)) : DefB K mg x st ps := by
  obtain ⟨fd, D, df, _⟩ := def_of c X G i j hd hg
  exact ⟨_, fd, D, D.fn.binds df hb⟩
theorem lamB_of {TT : Tb} {x : Str} {st : Stmt} {ps : List Str} (c : He.SaysD hfa hfn K) (X : K.In h) (G : h.Ns mainGlobals mg) (i j : Nat) (hd : hfn[i]? = some (dF x st)) (hg : hfa[j]? = some (.glo x))
    (hb : ∀ (kV doc pm : Value) (an : Option Addr) (cdv ct : Value) (us : List Value), us.length = ps.length → bindArgs (PySem.W.fnOf x x (C8.fnArgs st) (C8.fnBody st) (C8.fnScope st) .none kV doc pm an cdv ct) ⟨us, []⟩ = pure (ps.zip us))
    (TB : TabB base mg (He.cT K (x, none)).1 (He.cT K (x, none)).2) (hm : ((He.cT K (x, none)).2, x ++ (".<locals>." : Str) ++ ("<lambda>" : Str)) ∈ TT) (hu : ∀ p ∈ TT, p.1 = (He.cT K (x, none)).2 → p.2 = x ++ (".<locals>." : Str) ++ ("<lambda>" : Str)) : LamB K mg base TT x st ps := by
  obtain ⟨fd, D, df, cc, ecc, eco⟩ := def_of c X G i j hd hg
  have e1 : (He.cT K (x, none)).1 = cc := eco
  refine ⟨_, fd, cc, _, D, D.fn.binds df hb, ecc, ?_, hm, hu⟩
  rw [e1] at TB
  exact TB
theorem fun_of {m qq : Str} {st : Stmt} (c : He.SaysD hfa hfn K) (i : Nat) (hd : hfn[i]? = some (dM m qq st)) : ∃ fd, C8.Fun K m qq st (He.ma K (He.ga K "Network") m) fd ∧ fd.defaults = .none := by
  obtain ⟨fd, ⟨oc, od, dV, kV, doc, pm, an, cdv, ct, osl, rfl, lk, hin, hdf, hkw⟩, kp⟩ := c.def_ i hd
  exact ⟨_, ⟨oc, od, dV, kV, doc, pm, an, cdv, ct, osl, rfl, lk, hin⟩, dfl_none hdf⟩
theorem metB_of {m qq : Str} {st : Stmt} {ps : List Str} (c : He.SaysD hfa hfn K) (i j : Nat) (hd : hfn[i]? = some (dM m qq st)) (hg : hfa[j]? = some (.meth "Network" m))
    (hb : ∀ (kV doc pm : Value) (an : Option Addr) (cdv ct : Value) (us : List Value), us.length = ps.length → bindArgs (PySem.W.fnOf m qq (C8.fnArgs st) (C8.fnBody st) (C8.fnScope st) .none kV doc pm an cdv ct) ⟨us, []⟩ = pure (ps.zip us)) : MetB K (He.ga K "Network") m qq st ps := by
  obtain ⟨fd, F, df⟩ := fun_of c i hd
  exact ⟨_, fd, He.meth_ok (c.fact j hg), F, F.binds df hb⟩
theorem makB_of (c : He.SaysD hfa hfn K) (X : K.In h) (G : h.Ns mainGlobals mg) : MakB K mg (He.ga K "Network") := by
  obtain ⟨fd, F, df⟩ := fun_of c 54 (m := "__init__") (qq := "Network.__init__") (st := s_m_init) (by rfl)
  exact ⟨_, fd, He.mkr_ok (x := "Network") (c.fact 86 (by rfl)), F, F.binds df fun _ _ _ _ _ _ us hl => match us, hl with | [_, _, _], _ => rfl⟩
theorem tx_of (c : He.SaysD hfa hfn K) (X : K.In h) (G : h.Ns mainGlobals mg) (e : hex K = true) : Tx K mg (He.ga K "Network") where
  n_abs := He.free_ok X G (c.fact 56 (f := .free "abs") (by rfl))
  n_all := He.free_ok X G (c.fact 57 (f := .free "all") (by rfl))
  n_bool := He.free_ok X G (c.fact 58 (f := .free "bool") (by rfl))
  n_dict := He.free_ok X G (c.fact 59 (f := .free "dict") (by rfl))
  n_int := He.free_ok X G (c.fact 60 (f := .free "int") (by rfl))
  n_isinstance := He.free_ok X G (c.fact 61 (f := .free "isinstance") (by rfl))
  n_len := He.free_ok X G (c.fact 62 (f := .free "len") (by rfl))
  n_list := He.free_ok X G (c.fact 63 (f := .free "list") (by rfl))
  n_max := He.free_ok X G (c.fact 64 (f := .free "max") (by rfl))
  n_min := He.free_ok X G (c.fact 65 (f := .free "min") (by rfl))
  n_range := He.free_ok X G (c.fact 66 (f := .free "range") (by rfl))
  n_set := He.free_ok X G (c.fact 67 (f := .free "set") (by rfl))
  n_sorted := He.free_ok X G (c.fact 68 (f := .free "sorted") (by rfl))
  n_str := He.free_ok X G (c.fact 69 (f := .free "str") (by rfl))
  n_sum := He.free_ok X G (c.fact 70 (f := .free "sum") (by rfl))
  n_tuple := He.free_ok X G (c.fact 71 (f := .free "tuple") (by rfl))
  n_zip := He.free_ok X G (c.fact 72 (f := .free "zip") (by rfl))
  c_LETTERS := let ⟨t, e⟩ := He.str_ok X G (c.fact 73 (f := .str "LETTERS" "abcdefghijklmnopqrstuvwxyz") (by rfl)); ⟨_, e, ⟨t, rfl⟩⟩
  c_MAX_NAME := let ⟨t, e⟩ := He.int_ok X G (c.fact 74 (f := .int "MAX_NAME" 8) (by rfl)); ⟨_, e, ⟨t, rfl⟩⟩
  c_MAX_NODES := let ⟨t, e⟩ := He.int_ok X G (c.fact 75 (f := .int "MAX_NODES" 8) (by rfl)); ⟨_, e, ⟨t, rfl⟩⟩
  c_MAX_INPUTS := let ⟨t, e⟩ := He.int_ok X G (c.fact 76 (f := .int "MAX_INPUTS" 4) (by rfl)); ⟨_, e, ⟨t, rfl⟩⟩
  c_MAX_DRIFT := let ⟨t, e⟩ := He.int_ok X G (c.fact 77 (f := .int "MAX_DRIFT" 20) (by rfl)); ⟨_, e, ⟨t, rfl⟩⟩
  c_MAX_COST := let ⟨t, e⟩ := He.int_ok X G (c.fact 78 (f := .int "MAX_COST" 9) (by rfl)); ⟨_, e, ⟨t, rfl⟩⟩
  c_MAX_FACTOR := let ⟨t, e⟩ := He.int_ok X G (c.fact 79 (f := .int "MAX_FACTOR" 5) (by rfl)); ⟨_, e, ⟨t, rfl⟩⟩
  c_MAX_HORIZON := let ⟨t, e⟩ := He.int_ok X G (c.fact 80 (f := .int "MAX_HORIZON" 12) (by rfl)); ⟨_, e, ⟨t, rfl⟩⟩
  c_MAX_TOLERANCE := let ⟨t, e⟩ := He.int_ok X G (c.fact 81 (f := .int "MAX_TOLERANCE" 999) (by rfl)); ⟨_, e, ⟨t, rfl⟩⟩
  c_MAX_QUERIES := let ⟨t, e⟩ := He.int_ok X G (c.fact 82 (f := .int "MAX_QUERIES" 20) (by rfl)); ⟨_, e, ⟨t, rfl⟩⟩
  cl := He.cls_ok (x := "Network") (c.fact 83 (by rfl))
  nSp := He.noat_ok (x := "Network") (f := "springs") (c.fact 84 (by rfl))
  nDe := He.noat_ok (x := "Network") (f := "derived") (c.fact 85 (by rfl))
  insN := by
    obtain ⟨h1, e⟩ := He.ba e
    obtain ⟨h2, e⟩ := He.ba e
    obtain ⟨h3, e⟩ := He.ba e
    obtain ⟨h4, e⟩ := He.ba e
    obtain ⟨h5, e⟩ := He.ba e
    exact ⟨He.cls_ok (x := "Network") (c.fact 83 (by rfl)), He.eqO_ok h1, He.eqO_ok h2, of_decide_eq_true h3, of_decide_eq_true h4, of_decide_eq_true h5⟩
  k_Network := He.glo_ok X G (x := "Network") (c.fact 54 (by rfl))
theorem nx_of (c : He.SaysD hfa hfn K) (X : K.In h) (G : h.Ns mainGlobals mg) : Nx K mg (He.ga K "NotSufficient") := by
  obtain ⟨h1, h2, h3, h4⟩ := He.exc_ok (x := "NotSufficient") (c.fact 93 (by rfl))
  exact ⟨He.glo_ok X G (x := "NotSufficient") (c.fact 55 (by rfl)), h1, h2, h3, h4, He.exm_ok (x := "NotSufficient") (y := "NotSufficient") (c.fact 94 (by rfl))⟩
/-- the tables of the defs that make lambdas -/
def hTT (K : PySem.W.Frag) : Tb := [((He.cT K ("sorted_plan", none)).2, ("sorted_plan" : Str) ++ (".<locals>." : Str) ++ ("<lambda>" : Str)), ((He.cT K ("_law_order", none)).2, ("_law_order" : Str) ++ (".<locals>." : Str) ++ ("<lambda>" : Str)), ((He.cT K ("_law_one_right", none)).2, ("_law_one_right" : Str) ++ (".<locals>." : Str) ++ ("<lambda>" : Str))]
theorem all_of (c : He.SaysD hfa hfn K) (X : K.In h) (G : h.Ns mainGlobals mg) (e : hex K = true) (TB : ∀ p ∈ htf, TabB base mg (He.cT K p).1 (He.cT K p).2) : AllD K mg base (He.ga K "Network") (He.ga K "NotSufficient") (hTT K) := by
  have nn : (He.cT K ("sorted_plan", none)).2 ≠ (He.cT K ("_law_order", none)).2 ∧ (He.cT K ("sorted_plan", none)).2 ≠ (He.cT K ("_law_one_right", none)).2 ∧ (He.cT K ("_law_order", none)).2 ≠ (He.cT K ("_law_one_right", none)).2 := by
    obtain ⟨_, e⟩ := He.ba e
    obtain ⟨_, e⟩ := He.ba e
    obtain ⟨_, e⟩ := He.ba e
    obtain ⟨_, e⟩ := He.ba e
    obtain ⟨_, e⟩ := He.ba e
    obtain ⟨h6, e⟩ := He.ba e
    obtain ⟨h7, h8⟩ := He.ba e
    exact ⟨of_decide_eq_false (by simpa using h6), of_decide_eq_false (by simpa using h7), of_decide_eq_false (by simpa using h8)⟩
  obtain ⟨n1, n2, n3⟩ := nn
  have mem : ∀ p ∈ hTT K, p = ((He.cT K ("sorted_plan", none)).2, ("sorted_plan" : Str) ++ (".<locals>." : Str) ++ ("<lambda>" : Str)) ∨ p = ((He.cT K ("_law_order", none)).2, ("_law_order" : Str) ++ (".<locals>." : Str) ++ ("<lambda>" : Str)) ∨ p = ((He.cT K ("_law_one_right", none)).2, ("_law_one_right" : Str) ++ (".<locals>." : Str) ++ ("<lambda>" : Str)) := fun p hp => by
    unfold hTT at hp
    simpa only [List.mem_cons, List.not_mem_nil, or_false] using hp
  constructor
  · exact tx_of c X G e
  · exact nx_of c X G
  · exact defB_of c X G 18 18 (by rfl) (by rfl) fun _ _ _ _ _ _ us hl => match us, hl with | [_, _, _], _ => rfl
  · exact defB_of c X G 19 19 (by rfl) (by rfl) fun _ _ _ _ _ _ us hl => match us, hl with | [_, _, _], _ => rfl
  · exact defB_of c X G 25 25 (by rfl) (by rfl) fun _ _ _ _ _ _ us hl => match us, hl with | [_, _, _, _], _ => rfl
  · exact defB_of c X G 9 9 (by rfl) (by rfl) fun _ _ _ _ _ _ us hl => match us, hl with | [_, _], _ => rfl
  · exact defB_of c X G 8 8 (by rfl) (by rfl) fun _ _ _ _ _ _ us hl => match us, hl with | [_], _ => rfl
  · exact defB_of c X G 12 12 (by rfl) (by rfl) fun _ _ _ _ _ _ us hl => match us, hl with | [_, _, _], _ => rfl
  · exact defB_of c X G 15 15 (by rfl) (by rfl) fun _ _ _ _ _ _ us hl => match us, hl with | [_, _, _], _ => rfl
  · exact defB_of c X G 14 14 (by rfl) (by rfl) fun _ _ _ _ _ _ us hl => match us, hl with | [_, _, _], _ => rfl
  · exact defB_of c X G 27 27 (by rfl) (by rfl) fun _ _ _ _ _ _ us hl => match us, hl with | [_, _, _, _], _ => rfl
  · exact defB_of c X G 20 20 (by rfl) (by rfl) fun _ _ _ _ _ _ us hl => match us, hl with | [_, _], _ => rfl
  · exact defB_of c X G 23 23 (by rfl) (by rfl) fun _ _ _ _ _ _ us hl => match us, hl with | [_, _, _], _ => rfl
  · exact defB_of c X G 22 22 (by rfl) (by rfl) fun _ _ _ _ _ _ us hl => match us, hl with | [_, _], _ => rfl
  · exact defB_of c X G 33 33 (by rfl) (by rfl) fun _ _ _ _ _ _ us hl => match us, hl with | [_, _, _, _], _ => rfl
  · exact defB_of c X G 5 5 (by rfl) (by rfl) fun _ _ _ _ _ _ us hl => match us, hl with | [_], _ => rfl
  · exact defB_of c X G 24 24 (by rfl) (by rfl) fun _ _ _ _ _ _ us hl => match us, hl with | [_, _, _], _ => rfl
  · exact defB_of c X G 6 6 (by rfl) (by rfl) fun _ _ _ _ _ _ us hl => match us, hl with | [_], _ => rfl
  · exact defB_of c X G 0 0 (by rfl) (by rfl) fun _ _ _ _ _ _ us hl => match us, hl with | [_, _, _], _ => rfl
  · exact defB_of c X G 1 1 (by rfl) (by rfl) fun _ _ _ _ _ _ us hl => match us, hl with | [_], _ => rfl
  · exact defB_of c X G 2 2 (by rfl) (by rfl) fun _ _ _ _ _ _ us hl => match us, hl with | [_], _ => rfl
  · exact defB_of c X G 13 13 (by rfl) (by rfl) fun _ _ _ _ _ _ us hl => match us, hl with | [_, _, _], _ => rfl
  · exact defB_of c X G 11 11 (by rfl) (by rfl) fun _ _ _ _ _ _ us hl => match us, hl with | [_, _, _], _ => rfl
  · exact defB_of c X G 3 3 (by rfl) (by rfl) fun _ _ _ _ _ _ us hl => match us, hl with | [_, _], _ => rfl
  · exact defB_of c X G 26 26 (by rfl) (by rfl) fun _ _ _ _ _ _ us hl => match us, hl with | [_, _, _, _], _ => rfl
  · exact defB_of c X G 4 4 (by rfl) (by rfl) fun _ _ _ _ _ _ us hl => match us, hl with | [_], _ => rfl
  · exact defB_of c X G 7 7 (by rfl) (by rfl) fun _ _ _ _ _ _ us hl => match us, hl with | [_, _, _, _], _ => rfl
  · exact defB_of c X G 17 17 (by rfl) (by rfl) fun _ _ _ _ _ _ us hl => match us, hl with | [_], _ => rfl
  · exact defB_of c X G 44 44 (by rfl) (by rfl) fun _ _ _ _ _ _ us hl => match us, hl with | [_, _, _], _ => rfl
  · exact defB_of c X G 34 34 (by rfl) (by rfl) fun _ _ _ _ _ _ us hl => match us, hl with | [_, _], _ => rfl
  · exact defB_of c X G 50 50 (by rfl) (by rfl) fun _ _ _ _ _ _ us hl => match us, hl with | [_, _, _, _], _ => rfl
  · exact defB_of c X G 35 35 (by rfl) (by rfl) fun _ _ _ _ _ _ us hl => match us, hl with | [_, _, _], _ => rfl
  · exact defB_of c X G 47 47 (by rfl) (by rfl) fun _ _ _ _ _ _ us hl => match us, hl with | [_, _, _], _ => rfl
  · exact defB_of c X G 45 45 (by rfl) (by rfl) fun _ _ _ _ _ _ us hl => match us, hl with | [_, _, _], _ => rfl
  · exact defB_of c X G 40 40 (by rfl) (by rfl) fun _ _ _ _ _ _ us hl => match us, hl with | [_, _], _ => rfl
  · exact defB_of c X G 39 39 (by rfl) (by rfl) fun _ _ _ _ _ _ us hl => match us, hl with | [_, _], _ => rfl
  · exact defB_of c X G 37 37 (by rfl) (by rfl) fun _ _ _ _ _ _ us hl => match us, hl with | [_, _], _ => rfl
  · exact defB_of c X G 36 36 (by rfl) (by rfl) fun _ _ _ _ _ _ us hl => match us, hl with | [_, _, _], _ => rfl
  · refine lamB_of c X G 52 52 (by rfl) (by rfl) (fun _ _ _ _ _ _ us hl => match us, hl with | [_], _ => rfl) (TB ("_law_one_right", none) (by simp [htf])) (by simp [hTT]) fun p hpm hp => ?_
    rcases mem p hpm with rfl | rfl | rfl
    · exact absurd hp n2
    · exact absurd hp n3
    · exact rfl
  · refine lamB_of c X G 48 48 (by rfl) (by rfl) (fun _ _ _ _ _ _ us hl => match us, hl with | [_, _], _ => rfl) (TB ("_law_order", none) (by simp [htf])) (by simp [hTT]) fun p hpm hp => ?_
    rcases mem p hpm with rfl | rfl | rfl
    · exact absurd hp n1
    · exact rfl
    · exact absurd hp (Ne.symm n3)
  · exact defB_of c X G 38 38 (by rfl) (by rfl) fun _ _ _ _ _ _ us hl => match us, hl with | [_, _], _ => rfl
  · exact defB_of c X G 42 42 (by rfl) (by rfl) fun _ _ _ _ _ _ us hl => match us, hl with | [_, _, _, _], _ => rfl
  · exact defB_of c X G 43 43 (by rfl) (by rfl) fun _ _ _ _ _ _ us hl => match us, hl with | [_, _, _], _ => rfl
  · exact defB_of c X G 51 51 (by rfl) (by rfl) fun _ _ _ _ _ _ us hl => match us, hl with | [_], _ => rfl
  · exact defB_of c X G 49 49 (by rfl) (by rfl) fun _ _ _ _ _ _ us hl => match us, hl with | [_, _, _], _ => rfl
  · exact defB_of c X G 41 41 (by rfl) (by rfl) fun _ _ _ _ _ _ us hl => match us, hl with | [_, _], _ => rfl
  · exact defB_of c X G 46 46 (by rfl) (by rfl) fun _ _ _ _ _ _ us hl => match us, hl with | [_, _, _], _ => rfl
  · exact metB_of c 59 91 (by rfl) (by rfl) fun _ _ _ _ _ _ us hl => match us, hl with | [_, _], _ => rfl
  · exact metB_of c 58 90 (by rfl) (by rfl) fun _ _ _ _ _ _ us hl => match us, hl with | [_, _], _ => rfl
  · exact metB_of c 57 89 (by rfl) (by rfl) fun _ _ _ _ _ _ us hl => match us, hl with | [_], _ => rfl
  · exact metB_of c 60 92 (by rfl) (by rfl) fun _ _ _ _ _ _ us hl => match us, hl with | [_, _], _ => rfl
  · exact metB_of c 55 87 (by rfl) (by rfl) fun _ _ _ _ _ _ us hl => match us, hl with | [_], _ => rfl
  · exact metB_of c 56 88 (by rfl) (by rfl) fun _ _ _ _ _ _ us hl => match us, hl with | [_], _ => rfl
  · exact makB_of c X G
  · exact defB_of c X G 30 30 (by rfl) (by rfl) fun _ _ _ _ _ _ us hl => match us, hl with | [_, _, _, _], _ => rfl
  · exact defB_of c X G 10 10 (by rfl) (by rfl) fun _ _ _ _ _ _ us hl => match us, hl with | [_, _], _ => rfl
  · exact defB_of c X G 29 29 (by rfl) (by rfl) fun _ _ _ _ _ _ us hl => match us, hl with | [_, _, _, _], _ => rfl
  · refine lamB_of c X G 32 32 (by rfl) (by rfl) (fun _ _ _ _ _ _ us hl => match us, hl with | [_, _], _ => rfl) (TB ("sorted_plan", none) (by simp [htf])) (by simp [hTT]) fun p hpm hp => ?_
    rcases mem p hpm with rfl | rfl | rfl
    · exact rfl
    · exact absurd hp (Ne.symm n1)
    · exact absurd hp (Ne.symm n2)
  · exact defB_of c X G 16 16 (by rfl) (by rfl) fun _ _ _ _ _ _ us hl => match us, hl with | [_, _, _], _ => rfl
  · exact defB_of c X G 31 31 (by rfl) (by rfl) fun _ _ _ _ _ _ us hl => match us, hl with | [_, _, _, _], _ => rfl
  · exact defB_of c X G 28 28 (by rfl) (by rfl) fun _ _ _ _ _ _ us hl => match us, hl with | [_, _], _ => rfl
  · exact defB_of c X G 21 21 (by rfl) (by rfl) fun _ _ _ _ _ _ us hl => match us, hl with | [_, _, _], _ => rfl
theorem law_at {w : World} {fa : Addr} (c : He.SaysX hfa hfn [] htf hex w h K) (X : K.In h) (G : h.Ns mainGlobals mg) (hfa : mg "law" = some (.ref fa)) : LawAtS PySem.Challenge.rw_fewrefresh_k33_whole_plans w K C8.CX0 15 63 "_law_script" mg fa h := by
  obtain ⟨fd, D, df, _⟩ := def_of (x := "law") (st := s_law) c.t.d X G 53 53 (by rfl) (by rfl)
  have ea : He.ga K "law" = fa := by
    have := D.mgf
    rw [hfa] at this
    cases this
    rfl
  rw [ea] at D
  have bt : ∀ (s : Shared) (u : Value), BindsTo s fd ⟨[u], []⟩ [("_law_script", u)] := fun s u => by
    obtain ⟨oc, od, dV, kV, doc, pm, an, cdv, ct, osl, rfl, lk, hin⟩ := D.fn.ex
    obtain rfl : dV = .none := df
    exact .of_eq rfl
  have mem : ∀ p ∈ htf.map (He.cT K), ∃ q ∈ htf, p = He.cT K q := fun p hp => by
    obtain ⟨q, h1, h2⟩ := List.mem_map.mp hp
    exact ⟨q, h1, h2.symm⟩
  refine ⟨fd, htf.map (He.cT K), sp_law (hTT K) K, fun p hp => ?_, fun p hp => ?_, fun p hp => ?_, fun s u => ?_, fun H a ns hl _ hH hS => ?_, fun base KB GB TB => ?_⟩
  · obtain ⟨q, hq, rfl⟩ := mem p hp
    exact c.empty q hq
  · obtain ⟨q, hq, rfl⟩ := mem p hp
    exact c.out q hq
  · obtain ⟨q, hq, rfl⟩ := mem p hp
    exact PySem.W.codeHd_of_K X (c.hd q hq)
  · exact bt s u
  · refine ⟨a, ns, rfl, hS, by omega, fun p hp => ?_, fun _ => rfl⟩
    unfold hTT at hp
    simp only [List.mem_cons, List.not_mem_nil, or_false] at hp
    rcases hp with rfl | rfl | rfl
    · exact TabS.nil (hH (He.cT K ("sorted_plan", none)) (List.mem_map.mpr ⟨_, by simp [htf], rfl⟩))
    · exact TabS.nil (hH (He.cT K ("_law_order", none)) (List.mem_map.mpr ⟨_, by simp [htf], rfl⟩))
    · exact TabS.nil (hH (He.cT K ("_law_one_right", none)) (List.mem_map.mpr ⟨_, by simp [htf], rfl⟩))
  · have a := all_of (base := base) c.t.d X G c.more fun p hp => TB _ (List.mem_map.mpr ⟨p, hp, rfl⟩)
    exact fn_law (hTT K) a.T D (one_cal a)
end
end Rf
end

open PySem PySem.W PySem.Calls PyProof.Rows
set_option maxHeartbeats 0
theorem PySem.Challenge.cw_fewrefresh_k33_whole_plans_holds : PySem.Challenge.rw_fewrefresh_k33_whole_plans.Holds := by
  w_on; o_law
  refine HandSHeadRun.head_any (r := Rf.R) (q := view Rf.R.prog [80]) (H := Rf.hhk) (ob := Rf.hob) (M := 4000) (loose := Rf.hnm) (d := HandSHeadRun.topDef Rf.R.prog 80) (kwd := []) Rf.hob_eq
    (by kernel_rfl) (fun s => by kernel_rfl) Rf.hrun (by kernel_rfl) (by kernel_rfl) (by kernel_rfl) (by rfl) (by first | assumption | decide +kernel) (by decide +kernel) ⟨rfl, rfl, rfl, rfl, rfl, by decide +kernel⟩ ?hw ?hc
  case hw => w_witness2
  case hc =>
    refine LamX.walk_ofTsE (l := PySem.Challenge.rw_fewrefresh_k33_whole_plans) (n := 63) (k := 15) (x := "_law_script") (CX := fun _ => C8.CX0) rfl (by decide) (by kernel_rfl) ⟨rfl, by decide, by decide⟩ ?F (fun _ _ _ _ _ z => z)
    intro w mg fa h Y G hmg0
    obtain ⟨K, KX, c⟩ := Y
    have hmg : mg ("law" : PySem.Str) = some (.ref fa) := by
      have e : (HandSHeadRun.topDef Rf.R.prog 80).name = ("law" : PySem.Str) := by kernel_rfl
      rw [← e]
      exact hmg0
    exact ⟨K, KX, Rf.law_at c KX G hmg⟩
