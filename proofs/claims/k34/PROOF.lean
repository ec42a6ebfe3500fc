import PyProof.Rows.All
import Wide.All
import OpenK.AllK
import Wide.FinOn
import KE.KStateDown
import Lean
import HandS.ForMost
import HandS.More
import HandS.IsInst
import HandS.Style
import HandS.Deep
import HandS.Conv
import HandS.Defaults
import HandS.Zip
import HandS.Head0
import HandS.Head1
import HandS.Head2
import HandS.HeadEnd
import HandS.HeadHook1
import HandS.HeadHook2
import PySem.Challenge.RW_leasehall_k34_whole_accepted_is_right
set_option Elab.async false
set_option linter.all false
set_option maxRecDepth 100000
set_option maxHeartbeats 0
/-! The law, by hand over the library's layer: text and head, data and frames, the pure defs, the draws, the store, the law. -/
namespace Le
open PySem PySem.Spec PyProof.Rows L2
def top (i : Nat) : Stmt := PySem.Challenge.pw_leasehall_k34_whole_accepted_is_right.main.body.getD i (.Pass ⟨0, 0, 0, 0⟩)
abbrev s_contains : Stmt := top 2
abbrev s_includes : Stmt := top 3
abbrev s_touches : Stmt := top 4
abbrev s_cover_of : Stmt := top 5
abbrev s_selected : Stmt := top 6
abbrev s_least_record : Stmt := top 7
abbrev s_ask : Stmt := top 8
abbrev s_apply : Stmt := top 9
abbrev s_at : Stmt := top 11
abbrev s_results : Stmt := top 13
abbrev s_is_answer_at : Stmt := top 14
abbrev s_is_true_at : Stmt := top 16
abbrev s_is_true : Stmt := top 17
abbrev s_supports_newest : Stmt := top 18
abbrev s_supports : Stmt := top 19
abbrev s_accepts : Stmt := top 20
abbrev s_L_init : Stmt := inClass (top 23) 0
abbrev s_L_is_active : Stmt := inClass (top 23) 1
abbrev s_L_told : Stmt := inClass (top 23) 2
abbrev s_S_init : Stmt := inClass (top 24) 0
abbrev s_S_moment : Stmt := inClass (top 24) 2
abbrev s_S_ledger : Stmt := inClass (top 24) 3
abbrev s_S_pending : Stmt := inClass (top 24) 4
abbrev s_S_leases : Stmt := inClass (top 24) 5
abbrev s_S_handle : Stmt := inClass (top 24) 6
abbrev s_S_handle_fetch : Stmt := inClass (top 24) 7
abbrev s_S_handle_write : Stmt := inClass (top 24) 8
abbrev s_S_handle_lease : Stmt := inClass (top 24) 9
abbrev s_S_leased : Stmt := inClass (top 24) 10
abbrev s_S_is_awaited : Stmt := inClass (top 24) 11
abbrev s_S_handle_return : Stmt := inClass (top 24) 12
abbrev s_S_handle_missing : Stmt := inClass (top 24) 13
abbrev s_S_note : Stmt := inClass (top 24) 14
abbrev s_S_recalls : Stmt := inClass (top 24) 15
abbrev s_S_is_held_up : Stmt := inClass (top 24) 16
abbrev s_S_settle : Stmt := inClass (top 24) 17
abbrev s_S_commit : Stmt := inClass (top 24) 18
abbrev s_w_mix : Stmt := top 26
abbrev s_w_number : Stmt := top 27
abbrev s_w_state : Stmt := top 28
abbrev s_w_draw : Stmt := top 29
abbrev s_w_is_integer : Stmt := top 30
abbrev s_w_tells : Stmt := top 31
abbrev s_w_key : Stmt := top 32
abbrev s_w_cover : Stmt := top 33
abbrev s_w_question : Stmt := top 34
abbrev s_w_cover_of : Stmt := top 35
abbrev s_w_group : Stmt := top 36
abbrev s_w_at : Stmt := top 37
abbrev s_w_rows : Stmt := top 38
abbrev s_w_ask : Stmt := top 39
abbrev s_w_touches : Stmt := top 40
abbrev s_w_reach : Stmt := top 41
abbrev s_w_results : Stmt := top 42
abbrev s_w_same : Stmt := top 43
abbrev s_w_is_right : Stmt := top 44
abbrev s_w_promise : Stmt := top 45
abbrev s_w_read : Stmt := top 46
abbrev s_w_is_true : Stmt := top 47
abbrev s_w_within : Stmt := top 48
abbrev s_w_supports : Stmt := top 49
abbrev s_w_accepts : Stmt := top 50
abbrev s_w_statement : Stmt := top 51
abbrev s_w_evidence : Stmt := top 52
abbrev s_w_store_step : Stmt := top 53
abbrev s_w_best_evidence : Stmt := top 54
abbrev s_w_answer : Stmt := top 55
abbrev s_w_told : Stmt := top 56
abbrev s_law : Stmt := top 57
def d_contains : He.DefD := ⟨("contains", none), "contains", "contains", defArgs s_contains, defBody s_contains, defScope s_contains, [], []⟩
def d_includes : He.DefD := ⟨("includes", none), "includes", "includes", defArgs s_includes, defBody s_includes, defScope s_includes, [], []⟩
def d_touches : He.DefD := ⟨("touches", none), "touches", "touches", defArgs s_touches, defBody s_touches, defScope s_touches, [], []⟩
def d_cover_of : He.DefD := ⟨("cover_of", none), "cover_of", "cover_of", defArgs s_cover_of, defBody s_cover_of, defScope s_cover_of, [], []⟩
def d_selected : He.DefD := ⟨("selected", none), "selected", "selected", defArgs s_selected, defBody s_selected, defScope s_selected, [], []⟩
def d_least_record : He.DefD := ⟨("least_record", none), "least_record", "least_record", defArgs s_least_record, defBody s_least_record, defScope s_least_record, [], []⟩
def d_ask : He.DefD := ⟨("ask", none), "ask", "ask", defArgs s_ask, defBody s_ask, defScope s_ask, [], []⟩
def d_apply : He.DefD := ⟨("apply", none), "apply", "apply", defArgs s_apply, defBody s_apply, defScope s_apply, [], []⟩
def d_at : He.DefD := ⟨("at", none), "at", "at", defArgs s_at, defBody s_at, defScope s_at, [], []⟩
def d_results : He.DefD := ⟨("results", none), "results", "results", defArgs s_results, defBody s_results, defScope s_results, [], []⟩
def d_is_answer_at : He.DefD := ⟨("is_answer_at", none), "is_answer_at", "is_answer_at", defArgs s_is_answer_at, defBody s_is_answer_at, defScope s_is_answer_at, [], []⟩
def d_is_true_at : He.DefD := ⟨("is_true_at", none), "is_true_at", "is_true_at", defArgs s_is_true_at, defBody s_is_true_at, defScope s_is_true_at, [], []⟩
def d_is_true : He.DefD := ⟨("is_true", none), "is_true", "is_true", defArgs s_is_true, defBody s_is_true, defScope s_is_true, [], []⟩
def d_supports_newest : He.DefD := ⟨("supports_newest", none), "supports_newest", "supports_newest", defArgs s_supports_newest, defBody s_supports_newest, defScope s_supports_newest, [], []⟩
def d_supports : He.DefD := ⟨("supports", none), "supports", "supports", defArgs s_supports, defBody s_supports, defScope s_supports, [], []⟩
def d_accepts : He.DefD := ⟨("accepts", none), "accepts", "accepts", defArgs s_accepts, defBody s_accepts, defScope s_accepts, [], []⟩
def d_L_init : He.DefD := ⟨("Lease", some "__init__"), "__init__", "Lease.__init__", defArgs s_L_init, defBody s_L_init, defScope s_L_init, [], []⟩
def d_L_is_active : He.DefD := ⟨("Lease", some "is_active"), "is_active", "Lease.is_active", defArgs s_L_is_active, defBody s_L_is_active, defScope s_L_is_active, [], []⟩
def d_L_told : He.DefD := ⟨("Lease", some "told"), "told", "Lease.told", defArgs s_L_told, defBody s_L_told, defScope s_L_told, [], []⟩
def d_S_init : He.DefD := ⟨("Store", some "__init__"), "__init__", "Store.__init__", defArgs s_S_init, defBody s_S_init, defScope s_S_init, [], []⟩
def d_S_moment : He.DefD := ⟨("Store", some "moment"), "moment", "Store.moment", defArgs s_S_moment, defBody s_S_moment, defScope s_S_moment, [], []⟩
def d_S_ledger : He.DefD := ⟨("Store", some "ledger"), "ledger", "Store.ledger", defArgs s_S_ledger, defBody s_S_ledger, defScope s_S_ledger, [], []⟩
def d_S_pending : He.DefD := ⟨("Store", some "pending"), "pending", "Store.pending", defArgs s_S_pending, defBody s_S_pending, defScope s_S_pending, [], []⟩
def d_S_leases : He.DefD := ⟨("Store", some "leases"), "leases", "Store.leases", defArgs s_S_leases, defBody s_S_leases, defScope s_S_leases, [], []⟩
def d_S_handle : He.DefD := ⟨("Store", some "handle"), "handle", "Store.handle", defArgs s_S_handle, defBody s_S_handle, defScope s_S_handle, [], []⟩
def d_S_handle_fetch : He.DefD := ⟨("Store", some "handle_fetch"), "handle_fetch", "Store.handle_fetch", defArgs s_S_handle_fetch, defBody s_S_handle_fetch, defScope s_S_handle_fetch, [], []⟩
def d_S_handle_write : He.DefD := ⟨("Store", some "handle_write"), "handle_write", "Store.handle_write", defArgs s_S_handle_write, defBody s_S_handle_write, defScope s_S_handle_write, [], []⟩
def d_S_handle_lease : He.DefD := ⟨("Store", some "handle_lease"), "handle_lease", "Store.handle_lease", defArgs s_S_handle_lease, defBody s_S_handle_lease, defScope s_S_handle_lease, [], []⟩
def d_S_leased : He.DefD := ⟨("Store", some "leased"), "leased", "Store.leased", defArgs s_S_leased, defBody s_S_leased, defScope s_S_leased, [], []⟩
def d_S_is_awaited : He.DefD := ⟨("Store", some "is_awaited"), "is_awaited", "Store.is_awaited", defArgs s_S_is_awaited, defBody s_S_is_awaited, defScope s_S_is_awaited, [], []⟩
def d_S_handle_return : He.DefD := ⟨("Store", some "handle_return"), "handle_return", "Store.handle_return", defArgs s_S_handle_return, defBody s_S_handle_return, defScope s_S_handle_return, [], []⟩
def d_S_handle_missing : He.DefD := ⟨("Store", some "handle_missing"), "handle_missing", "Store.handle_missing", defArgs s_S_handle_missing, defBody s_S_handle_missing, defScope s_S_handle_missing, [], []⟩
def d_S_note : He.DefD := ⟨("Store", some "note"), "note", "Store.note", defArgs s_S_note, defBody s_S_note, defScope s_S_note, [], []⟩
def d_S_recalls : He.DefD := ⟨("Store", some "recalls"), "recalls", "Store.recalls", defArgs s_S_recalls, defBody s_S_recalls, defScope s_S_recalls, [], []⟩
def d_S_is_held_up : He.DefD := ⟨("Store", some "is_held_up"), "is_held_up", "Store.is_held_up", defArgs s_S_is_held_up, defBody s_S_is_held_up, defScope s_S_is_held_up, [], []⟩
def d_S_settle : He.DefD := ⟨("Store", some "settle"), "settle", "Store.settle", defArgs s_S_settle, defBody s_S_settle, defScope s_S_settle, [], []⟩
def d_S_commit : He.DefD := ⟨("Store", some "commit"), "commit", "Store.commit", defArgs s_S_commit, defBody s_S_commit, defScope s_S_commit, [], []⟩
def d_w_mix : He.DefD := ⟨("_law_mix", none), "_law_mix", "_law_mix", defArgs s_w_mix, defBody s_w_mix, defScope s_w_mix, [], []⟩
def d_w_number : He.DefD := ⟨("_law_number", none), "_law_number", "_law_number", defArgs s_w_number, defBody s_w_number, defScope s_w_number, [], []⟩
def d_w_state : He.DefD := ⟨("_law_state", none), "_law_state", "_law_state", defArgs s_w_state, defBody s_w_state, defScope s_w_state, [], []⟩
def d_w_draw : He.DefD := ⟨("_law_draw", none), "_law_draw", "_law_draw", defArgs s_w_draw, defBody s_w_draw, defScope s_w_draw, [], []⟩
def d_w_is_integer : He.DefD := ⟨("_law_is_integer", none), "_law_is_integer", "_law_is_integer", defArgs s_w_is_integer, defBody s_w_is_integer, defScope s_w_is_integer, [], []⟩
def d_w_tells : He.DefD := ⟨("_law_tells", none), "_law_tells", "_law_tells", defArgs s_w_tells, defBody s_w_tells, defScope s_w_tells, [], []⟩
def d_w_key : He.DefD := ⟨("_law_key", none), "_law_key", "_law_key", defArgs s_w_key, defBody s_w_key, defScope s_w_key, [], []⟩
def d_w_cover : He.DefD := ⟨("_law_cover", none), "_law_cover", "_law_cover", defArgs s_w_cover, defBody s_w_cover, defScope s_w_cover, [], []⟩
def d_w_question : He.DefD := ⟨("_law_question", none), "_law_question", "_law_question", defArgs s_w_question, defBody s_w_question, defScope s_w_question, [], []⟩
def d_w_cover_of : He.DefD := ⟨("_law_cover_of", none), "_law_cover_of", "_law_cover_of", defArgs s_w_cover_of, defBody s_w_cover_of, defScope s_w_cover_of, [], []⟩
def d_w_group : He.DefD := ⟨("_law_group", none), "_law_group", "_law_group", defArgs s_w_group, defBody s_w_group, defScope s_w_group, [], []⟩
def d_w_at : He.DefD := ⟨("_law_at", none), "_law_at", "_law_at", defArgs s_w_at, defBody s_w_at, defScope s_w_at, [], []⟩
def d_w_rows : He.DefD := ⟨("_law_rows", none), "_law_rows", "_law_rows", defArgs s_w_rows, defBody s_w_rows, defScope s_w_rows, [], []⟩
def d_w_ask : He.DefD := ⟨("_law_ask", none), "_law_ask", "_law_ask", defArgs s_w_ask, defBody s_w_ask, defScope s_w_ask, [], []⟩
def d_w_touches : He.DefD := ⟨("_law_touches", none), "_law_touches", "_law_touches", defArgs s_w_touches, defBody s_w_touches, defScope s_w_touches, [], []⟩
def d_w_reach : He.DefD := ⟨("_law_reach", none), "_law_reach", "_law_reach", defArgs s_w_reach, defBody s_w_reach, defScope s_w_reach, [], []⟩
def d_w_results : He.DefD := ⟨("_law_results", none), "_law_results", "_law_results", defArgs s_w_results, defBody s_w_results, defScope s_w_results, [], []⟩
def d_w_same : He.DefD := ⟨("_law_same", none), "_law_same", "_law_same", defArgs s_w_same, defBody s_w_same, defScope s_w_same, [], []⟩
def d_w_is_right : He.DefD := ⟨("_law_is_right", none), "_law_is_right", "_law_is_right", defArgs s_w_is_right, defBody s_w_is_right, defScope s_w_is_right, [], []⟩
def d_w_promise : He.DefD := ⟨("_law_promise", none), "_law_promise", "_law_promise", defArgs s_w_promise, defBody s_w_promise, defScope s_w_promise, [], []⟩
def d_w_read : He.DefD := ⟨("_law_read", none), "_law_read", "_law_read", defArgs s_w_read, defBody s_w_read, defScope s_w_read, [], []⟩
def d_w_is_true : He.DefD := ⟨("_law_is_true", none), "_law_is_true", "_law_is_true", defArgs s_w_is_true, defBody s_w_is_true, defScope s_w_is_true, [], []⟩
def d_w_within : He.DefD := ⟨("_law_within", none), "_law_within", "_law_within", defArgs s_w_within, defBody s_w_within, defScope s_w_within, [], []⟩
def d_w_supports : He.DefD := ⟨("_law_supports", none), "_law_supports", "_law_supports", defArgs s_w_supports, defBody s_w_supports, defScope s_w_supports, [], []⟩
def d_w_accepts : He.DefD := ⟨("_law_accepts", none), "_law_accepts", "_law_accepts", defArgs s_w_accepts, defBody s_w_accepts, defScope s_w_accepts, [], []⟩
def d_w_statement : He.DefD := ⟨("_law_statement", none), "_law_statement", "_law_statement", defArgs s_w_statement, defBody s_w_statement, defScope s_w_statement, [], []⟩
def d_w_evidence : He.DefD := ⟨("_law_evidence", none), "_law_evidence", "_law_evidence", defArgs s_w_evidence, defBody s_w_evidence, defScope s_w_evidence, [], []⟩
def d_w_store_step : He.DefD := ⟨("_law_store_step", none), "_law_store_step", "_law_store_step", defArgs s_w_store_step, defBody s_w_store_step, defScope s_w_store_step, [], []⟩
def d_w_best_evidence : He.DefD := ⟨("_law_best_evidence", none), "_law_best_evidence", "_law_best_evidence", defArgs s_w_best_evidence, defBody s_w_best_evidence, defScope s_w_best_evidence, [], []⟩
def d_w_answer : He.DefD := ⟨("_law_answer", none), "_law_answer", "_law_answer", defArgs s_w_answer, defBody s_w_answer, defScope s_w_answer, [], []⟩
def d_w_told : He.DefD := ⟨("_law_told", none), "_law_told", "_law_told", defArgs s_w_told, defBody s_w_told, defScope s_w_told, [], []⟩
def d_law : He.DefD := ⟨("law", none), "law", "law", defArgs s_law, defBody s_law, defScope s_law, [], []⟩
def fn0 : List He.DefD := [d_contains, d_includes, d_touches, d_cover_of, d_selected, d_least_record, d_ask, d_apply, d_at, d_results, d_is_answer_at, d_is_true_at, d_is_true, d_supports_newest, d_supports, d_accepts, d_L_init, d_L_is_active, d_L_told, d_S_init]
def fn1 : List He.DefD := [d_S_moment, d_S_ledger, d_S_pending, d_S_leases, d_S_handle, d_S_handle_fetch, d_S_handle_write, d_S_handle_lease, d_S_leased, d_S_is_awaited, d_S_handle_return, d_S_handle_missing, d_S_note, d_S_recalls, d_S_is_held_up, d_S_settle, d_S_commit, d_w_mix, d_w_number, d_w_state]
def fn2 : List He.DefD := [d_w_draw, d_w_is_integer, d_w_tells, d_w_key, d_w_cover, d_w_question, d_w_cover_of, d_w_group, d_w_at, d_w_rows, d_w_ask, d_w_touches, d_w_reach, d_w_results, d_w_same, d_w_is_right, d_w_promise, d_w_read, d_w_is_true, d_w_within]
def fn3 : List He.DefD := [d_w_supports, d_w_accepts, d_w_statement, d_w_evidence, d_w_store_step, d_w_best_evidence, d_w_answer, d_w_told, d_law]
def fn : List He.DefD := fn0 ++ fn1 ++ fn2 ++ fn3
def fa0 : List He.Fa := [.glo "contains", .glo "includes", .glo "touches", .glo "cover_of", .glo "selected", .glo "least_record", .glo "ask", .glo "apply", .glo "at", .glo "results", .glo "is_answer_at", .glo "is_true_at", .glo "is_true", .glo "supports_newest", .glo "supports", .glo "accepts", .glo "Lease", .glo "Store", .glo "_law_mix", .glo "_law_number", .glo "_law_state", .glo "_law_draw", .glo "_law_is_integer", .glo "_law_tells", .glo "_law_key", .glo "_law_cover", .glo "_law_question", .glo "_law_cover_of", .glo "_law_group", .glo "_law_at"]
def fa1 : List He.Fa := [.glo "_law_rows", .glo "_law_ask", .glo "_law_touches", .glo "_law_reach", .glo "_law_results", .glo "_law_same", .glo "_law_is_right", .glo "_law_promise", .glo "_law_read", .glo "_law_is_true", .glo "_law_within", .glo "_law_supports", .glo "_law_accepts", .glo "_law_statement", .glo "_law_evidence", .glo "_law_store_step", .glo "_law_best_evidence", .glo "_law_answer", .glo "_law_told", .glo "law", .free "len", .free "list", .free "int", .free "range", .free "sorted", .free "sum", .free "tuple", .free "dict", .free "isinstance", .free "bool"]
def fa2 : List He.Fa := [.free "str", .free "min", .free "max", .free "enumerate", .free "zip", .int "MAX_COMMITS" 200, .cls "Lease", .mkr "Lease", .noat "Lease" "owner", .noat "Lease" "request", .noat "Lease" "cover", .noat "Lease" "until", .noat "Lease" "moment", .noat "Lease" "time", .noat "Lease" "is_returned", .cls "Store", .mkr "Store", .noat "Store" "host_count", .noat "Store" "lease_length", .noat "Store" "commits", .noat "Store" "granted", .noat "Store" "waiting", .noat "Store" "written", .noat "Store" "running", .meth "Lease" "is_active", .meth "Lease" "told", .meth "Store" "moment", .meth "Store" "ledger", .meth "Store" "pending", .meth "Store" "leases"]
def fa3 : List He.Fa := [.meth "Store" "handle", .meth "Store" "handle_fetch", .meth "Store" "handle_write", .meth "Store" "handle_lease", .meth "Store" "leased", .meth "Store" "is_awaited", .meth "Store" "handle_return", .meth "Store" "handle_missing", .meth "Store" "note", .meth "Store" "recalls", .meth "Store" "is_held_up", .meth "Store" "settle", .meth "Store" "commit"]
def fa : List He.Fa := fa0 ++ fa1 ++ fa2 ++ fa3
def loose0 : List PySem.Str := ["_wall", "contains", "includes", "touches", "cover_of", "selected", "least_record", "ask", "apply", "at", "results", "is_answer_at", "is_true_at", "is_true", "supports_newest", "supports", "accepts", "MAX_COMMITS", "Lease", "Store", "_law_mix", "_law_number", "_law_state", "_law_draw", "_law_is_integer"]
def loose1 : List PySem.Str := ["_law_tells", "_law_key", "_law_cover", "_law_question", "_law_cover_of", "_law_group", "_law_at", "_law_rows", "_law_ask", "_law_touches", "_law_reach", "_law_results", "_law_same", "_law_is_right", "_law_promise", "_law_read", "_law_is_true", "_law_within", "_law_supports", "_law_accepts", "_law_statement", "_law_evidence", "_law_store_step", "_law_best_evidence", "_law_answer"]
def loose2 : List PySem.Str := ["_law_told"]
def loose : List PySem.Str := loose0 ++ loose1 ++ loose2
abbrev R : PySem.W.OpenRow := PySem.W.OpenLaw.row PySem.Challenge.rw_leasehall_k34_whole_accepted_is_right
section
variable {K : PySem.W.Frag}
/-- all that the head tells of K -/
abbrev Says (K : PySem.W.Frag) : Prop := He.SaysD fa fn K
theorem F_g_contains (c : Says K) : He.Fa.ok K (.glo "contains") = true := c.fact 0 rfl
theorem F_g_includes (c : Says K) : He.Fa.ok K (.glo "includes") = true := c.fact 1 rfl
theorem F_g_touches (c : Says K) : He.Fa.ok K (.glo "touches") = true := c.fact 2 rfl
theorem F_g_cover_of (c : Says K) : He.Fa.ok K (.glo "cover_of") = true := c.fact 3 rfl
theorem F_g_selected (c : Says K) : He.Fa.ok K (.glo "selected") = true := c.fact 4 rfl
theorem F_g_least_record (c : Says K) : He.Fa.ok K (.glo "least_record") = true := c.fact 5 rfl
theorem F_g_ask (c : Says K) : He.Fa.ok K (.glo "ask") = true := c.fact 6 rfl
theorem F_g_apply (c : Says K) : He.Fa.ok K (.glo "apply") = true := c.fact 7 rfl
theorem F_g_at (c : Says K) : He.Fa.ok K (.glo "at") = true := c.fact 8 rfl
theorem F_g_results (c : Says K) : He.Fa.ok K (.glo "results") = true := c.fact 9 rfl
theorem F_g_is_answer_at (c : Says K) : He.Fa.ok K (.glo "is_answer_at") = true := c.fact 10 rfl
theorem F_g_is_true_at (c : Says K) : He.Fa.ok K (.glo "is_true_at") = true := c.fact 11 rfl
theorem F_g_is_true (c : Says K) : He.Fa.ok K (.glo "is_true") = true := c.fact 12 rfl
theorem F_g_supports_newest (c : Says K) : He.Fa.ok K (.glo "supports_newest") = true := c.fact 13 rfl
theorem F_g_supports (c : Says K) : He.Fa.ok K (.glo "supports") = true := c.fact 14 rfl
theorem F_g_accepts (c : Says K) : He.Fa.ok K (.glo "accepts") = true := c.fact 15 rfl
theorem F_g_Lease (c : Says K) : He.Fa.ok K (.glo "Lease") = true := c.fact 16 rfl
theorem F_g_Store (c : Says K) : He.Fa.ok K (.glo "Store") = true := c.fact 17 rfl
theorem F_g_w_mix (c : Says K) : He.Fa.ok K (.glo "_law_mix") = true := c.fact 18 rfl
theorem F_g_w_number (c : Says K) : He.Fa.ok K (.glo "_law_number") = true := c.fact 19 rfl
theorem F_g_w_state (c : Says K) : He.Fa.ok K (.glo "_law_state") = true := c.fact 20 rfl
theorem F_g_w_draw (c : Says K) : He.Fa.ok K (.glo "_law_draw") = true := c.fact 21 rfl
theorem F_g_w_is_integer (c : Says K) : He.Fa.ok K (.glo "_law_is_integer") = true := c.fact 22 rfl
theorem F_g_w_tells (c : Says K) : He.Fa.ok K (.glo "_law_tells") = true := c.fact 23 rfl
theorem F_g_w_key (c : Says K) : He.Fa.ok K (.glo "_law_key") = true := c.fact 24 rfl
theorem F_g_w_cover (c : Says K) : He.Fa.ok K (.glo "_law_cover") = true := c.fact 25 rfl
theorem F_g_w_question (c : Says K) : He.Fa.ok K (.glo "_law_question") = true := c.fact 26 rfl
theorem F_g_w_cover_of (c : Says K) : He.Fa.ok K (.glo "_law_cover_of") = true := c.fact 27 rfl
theorem F_g_w_group (c : Says K) : He.Fa.ok K (.glo "_law_group") = true := c.fact 28 rfl
theorem F_g_w_at (c : Says K) : He.Fa.ok K (.glo "_law_at") = true := c.fact 29 rfl
theorem F_g_w_rows (c : Says K) : He.Fa.ok K (.glo "_law_rows") = true := c.fact 30 rfl
theorem F_g_w_ask (c : Says K) : He.Fa.ok K (.glo "_law_ask") = true := c.fact 31 rfl
theorem F_g_w_touches (c : Says K) : He.Fa.ok K (.glo "_law_touches") = true := c.fact 32 rfl
theorem F_g_w_reach (c : Says K) : He.Fa.ok K (.glo "_law_reach") = true := c.fact 33 rfl
theorem F_g_w_results (c : Says K) : He.Fa.ok K (.glo "_law_results") = true := c.fact 34 rfl
theorem F_g_w_same (c : Says K) : He.Fa.ok K (.glo "_law_same") = true := c.fact 35 rfl
theorem F_g_w_is_right (c : Says K) : He.Fa.ok K (.glo "_law_is_right") = true := c.fact 36 rfl
theorem F_g_w_promise (c : Says K) : He.Fa.ok K (.glo "_law_promise") = true := c.fact 37 rfl
theorem F_g_w_read (c : Says K) : He.Fa.ok K (.glo "_law_read") = true := c.fact 38 rfl
theorem F_g_w_is_true (c : Says K) : He.Fa.ok K (.glo "_law_is_true") = true := c.fact 39 rfl
theorem F_g_w_within (c : Says K) : He.Fa.ok K (.glo "_law_within") = true := c.fact 40 rfl
theorem F_g_w_supports (c : Says K) : He.Fa.ok K (.glo "_law_supports") = true := c.fact 41 rfl
theorem F_g_w_accepts (c : Says K) : He.Fa.ok K (.glo "_law_accepts") = true := c.fact 42 rfl
theorem F_g_w_statement (c : Says K) : He.Fa.ok K (.glo "_law_statement") = true := c.fact 43 rfl
theorem F_g_w_evidence (c : Says K) : He.Fa.ok K (.glo "_law_evidence") = true := c.fact 44 rfl
theorem F_g_w_store_step (c : Says K) : He.Fa.ok K (.glo "_law_store_step") = true := c.fact 45 rfl
theorem F_g_w_best_evidence (c : Says K) : He.Fa.ok K (.glo "_law_best_evidence") = true := c.fact 46 rfl
theorem F_g_w_answer (c : Says K) : He.Fa.ok K (.glo "_law_answer") = true := c.fact 47 rfl
theorem F_g_w_told (c : Says K) : He.Fa.ok K (.glo "_law_told") = true := c.fact 48 rfl
theorem F_g_law (c : Says K) : He.Fa.ok K (.glo "law") = true := c.fact 49 rfl
theorem F_b_len (c : Says K) : He.Fa.ok K (.free "len") = true := c.fact 50 rfl
theorem F_b_list (c : Says K) : He.Fa.ok K (.free "list") = true := c.fact 51 rfl
theorem F_b_int (c : Says K) : He.Fa.ok K (.free "int") = true := c.fact 52 rfl
theorem F_b_range (c : Says K) : He.Fa.ok K (.free "range") = true := c.fact 53 rfl
theorem F_b_sorted (c : Says K) : He.Fa.ok K (.free "sorted") = true := c.fact 54 rfl
theorem F_b_sum (c : Says K) : He.Fa.ok K (.free "sum") = true := c.fact 55 rfl
theorem F_b_tuple (c : Says K) : He.Fa.ok K (.free "tuple") = true := c.fact 56 rfl
theorem F_b_dict (c : Says K) : He.Fa.ok K (.free "dict") = true := c.fact 57 rfl
theorem F_b_isinstance (c : Says K) : He.Fa.ok K (.free "isinstance") = true := c.fact 58 rfl
theorem F_b_bool (c : Says K) : He.Fa.ok K (.free "bool") = true := c.fact 59 rfl
theorem F_b_str (c : Says K) : He.Fa.ok K (.free "str") = true := c.fact 60 rfl
theorem F_b_min (c : Says K) : He.Fa.ok K (.free "min") = true := c.fact 61 rfl
theorem F_b_max (c : Says K) : He.Fa.ok K (.free "max") = true := c.fact 62 rfl
theorem F_b_enumerate (c : Says K) : He.Fa.ok K (.free "enumerate") = true := c.fact 63 rfl
theorem F_b_zip (c : Says K) : He.Fa.ok K (.free "zip") = true := c.fact 64 rfl
theorem F_i_MAX (c : Says K) : He.Fa.ok K (.int "MAX_COMMITS" 200) = true := c.fact 65 rfl
theorem F_c_Lease (c : Says K) : He.Fa.ok K (.cls "Lease") = true := c.fact 66 rfl
theorem F_k_Lease (c : Says K) : He.Fa.ok K (.mkr "Lease") = true := c.fact 67 rfl
theorem F_n_L_owner (c : Says K) : He.Fa.ok K (.noat "Lease" "owner") = true := c.fact 68 rfl
theorem F_n_L_request (c : Says K) : He.Fa.ok K (.noat "Lease" "request") = true := c.fact 69 rfl
theorem F_n_L_cover (c : Says K) : He.Fa.ok K (.noat "Lease" "cover") = true := c.fact 70 rfl
theorem F_n_L_until (c : Says K) : He.Fa.ok K (.noat "Lease" "until") = true := c.fact 71 rfl
theorem F_n_L_moment (c : Says K) : He.Fa.ok K (.noat "Lease" "moment") = true := c.fact 72 rfl
theorem F_n_L_time (c : Says K) : He.Fa.ok K (.noat "Lease" "time") = true := c.fact 73 rfl
theorem F_n_L_is_returned (c : Says K) : He.Fa.ok K (.noat "Lease" "is_returned") = true := c.fact 74 rfl
theorem F_c_Store (c : Says K) : He.Fa.ok K (.cls "Store") = true := c.fact 75 rfl
theorem F_k_Store (c : Says K) : He.Fa.ok K (.mkr "Store") = true := c.fact 76 rfl
theorem F_n_S_host_count (c : Says K) : He.Fa.ok K (.noat "Store" "host_count") = true := c.fact 77 rfl
theorem F_n_S_lease_length (c : Says K) : He.Fa.ok K (.noat "Store" "lease_length") = true := c.fact 78 rfl
theorem F_n_S_commits (c : Says K) : He.Fa.ok K (.noat "Store" "commits") = true := c.fact 79 rfl
theorem F_n_S_granted (c : Says K) : He.Fa.ok K (.noat "Store" "granted") = true := c.fact 80 rfl
theorem F_n_S_waiting (c : Says K) : He.Fa.ok K (.noat "Store" "waiting") = true := c.fact 81 rfl
theorem F_n_S_written (c : Says K) : He.Fa.ok K (.noat "Store" "written") = true := c.fact 82 rfl
theorem F_n_S_running (c : Says K) : He.Fa.ok K (.noat "Store" "running") = true := c.fact 83 rfl
theorem F_m_L_is_active (c : Says K) : He.Fa.ok K (.meth "Lease" "is_active") = true := c.fact 84 rfl
theorem F_m_L_told (c : Says K) : He.Fa.ok K (.meth "Lease" "told") = true := c.fact 85 rfl
theorem F_m_S_moment (c : Says K) : He.Fa.ok K (.meth "Store" "moment") = true := c.fact 86 rfl
theorem F_m_S_ledger (c : Says K) : He.Fa.ok K (.meth "Store" "ledger") = true := c.fact 87 rfl
theorem F_m_S_pending (c : Says K) : He.Fa.ok K (.meth "Store" "pending") = true := c.fact 88 rfl
theorem F_m_S_leases (c : Says K) : He.Fa.ok K (.meth "Store" "leases") = true := c.fact 89 rfl
theorem F_m_S_handle (c : Says K) : He.Fa.ok K (.meth "Store" "handle") = true := c.fact 90 rfl
theorem F_m_S_handle_fetch (c : Says K) : He.Fa.ok K (.meth "Store" "handle_fetch") = true := c.fact 91 rfl
theorem F_m_S_handle_write (c : Says K) : He.Fa.ok K (.meth "Store" "handle_write") = true := c.fact 92 rfl
theorem F_m_S_handle_lease (c : Says K) : He.Fa.ok K (.meth "Store" "handle_lease") = true := c.fact 93 rfl
theorem F_m_S_leased (c : Says K) : He.Fa.ok K (.meth "Store" "leased") = true := c.fact 94 rfl
theorem F_m_S_is_awaited (c : Says K) : He.Fa.ok K (.meth "Store" "is_awaited") = true := c.fact 95 rfl
theorem F_m_S_handle_return (c : Says K) : He.Fa.ok K (.meth "Store" "handle_return") = true := c.fact 96 rfl
theorem F_m_S_handle_missing (c : Says K) : He.Fa.ok K (.meth "Store" "handle_missing") = true := c.fact 97 rfl
theorem F_m_S_note (c : Says K) : He.Fa.ok K (.meth "Store" "note") = true := c.fact 98 rfl
theorem F_m_S_recalls (c : Says K) : He.Fa.ok K (.meth "Store" "recalls") = true := c.fact 99 rfl
theorem F_m_S_is_held_up (c : Says K) : He.Fa.ok K (.meth "Store" "is_held_up") = true := c.fact 100 rfl
theorem F_m_S_settle (c : Says K) : He.Fa.ok K (.meth "Store" "settle") = true := c.fact 101 rfl
theorem F_m_S_commit (c : Says K) : He.Fa.ok K (.meth "Store" "commit") = true := c.fact 102 rfl
theorem D_contains (c : Says K) : ∃ fd, FunD K d_contains.name d_contains.qual d_contains.params d_contains.body d_contains.scope [] [] (He.fAd K d_contains.at_) fd := c.def_ 0 rfl
theorem D_includes (c : Says K) : ∃ fd, FunD K d_includes.name d_includes.qual d_includes.params d_includes.body d_includes.scope [] [] (He.fAd K d_includes.at_) fd := c.def_ 1 rfl
theorem D_touches (c : Says K) : ∃ fd, FunD K d_touches.name d_touches.qual d_touches.params d_touches.body d_touches.scope [] [] (He.fAd K d_touches.at_) fd := c.def_ 2 rfl
theorem D_cover_of (c : Says K) : ∃ fd, FunD K d_cover_of.name d_cover_of.qual d_cover_of.params d_cover_of.body d_cover_of.scope [] [] (He.fAd K d_cover_of.at_) fd := c.def_ 3 rfl
theorem D_selected (c : Says K) : ∃ fd, FunD K d_selected.name d_selected.qual d_selected.params d_selected.body d_selected.scope [] [] (He.fAd K d_selected.at_) fd := c.def_ 4 rfl
theorem D_least_record (c : Says K) : ∃ fd, FunD K d_least_record.name d_least_record.qual d_least_record.params d_least_record.body d_least_record.scope [] [] (He.fAd K d_least_record.at_) fd := c.def_ 5 rfl
theorem D_ask (c : Says K) : ∃ fd, FunD K d_ask.name d_ask.qual d_ask.params d_ask.body d_ask.scope [] [] (He.fAd K d_ask.at_) fd := c.def_ 6 rfl
theorem D_apply (c : Says K) : ∃ fd, FunD K d_apply.name d_apply.qual d_apply.params d_apply.body d_apply.scope [] [] (He.fAd K d_apply.at_) fd := c.def_ 7 rfl
theorem D_at (c : Says K) : ∃ fd, FunD K d_at.name d_at.qual d_at.params d_at.body d_at.scope [] [] (He.fAd K d_at.at_) fd := c.def_ 8 rfl
theorem D_results (c : Says K) : ∃ fd, FunD K d_results.name d_results.qual d_results.params d_results.body d_results.scope [] [] (He.fAd K d_results.at_) fd := c.def_ 9 rfl
theorem D_is_answer_at (c : Says K) : ∃ fd, FunD K d_is_answer_at.name d_is_answer_at.qual d_is_answer_at.params d_is_answer_at.body d_is_answer_at.scope [] [] (He.fAd K d_is_answer_at.at_) fd := c.def_ 10 rfl
theorem D_is_true_at (c : Says K) : ∃ fd, FunD K d_is_true_at.name d_is_true_at.qual d_is_true_at.params d_is_true_at.body d_is_true_at.scope [] [] (He.fAd K d_is_true_at.at_) fd := c.def_ 11 rfl
theorem D_is_true (c : Says K) : ∃ fd, FunD K d_is_true.name d_is_true.qual d_is_true.params d_is_true.body d_is_true.scope [] [] (He.fAd K d_is_true.at_) fd := c.def_ 12 rfl
theorem D_supports_newest (c : Says K) : ∃ fd, FunD K d_supports_newest.name d_supports_newest.qual d_supports_newest.params d_supports_newest.body d_supports_newest.scope [] [] (He.fAd K d_supports_newest.at_) fd := c.def_ 13 rfl
theorem D_supports (c : Says K) : ∃ fd, FunD K d_supports.name d_supports.qual d_supports.params d_supports.body d_supports.scope [] [] (He.fAd K d_supports.at_) fd := c.def_ 14 rfl
theorem D_accepts (c : Says K) : ∃ fd, FunD K d_accepts.name d_accepts.qual d_accepts.params d_accepts.body d_accepts.scope [] [] (He.fAd K d_accepts.at_) fd := c.def_ 15 rfl
theorem D_L_init (c : Says K) : ∃ fd, FunD K d_L_init.name d_L_init.qual d_L_init.params d_L_init.body d_L_init.scope [] [] (He.fAd K d_L_init.at_) fd := c.def_ 16 rfl
theorem D_L_is_active (c : Says K) : ∃ fd, FunD K d_L_is_active.name d_L_is_active.qual d_L_is_active.params d_L_is_active.body d_L_is_active.scope [] [] (He.fAd K d_L_is_active.at_) fd := c.def_ 17 rfl
theorem D_L_told (c : Says K) : ∃ fd, FunD K d_L_told.name d_L_told.qual d_L_told.params d_L_told.body d_L_told.scope [] [] (He.fAd K d_L_told.at_) fd := c.def_ 18 rfl
theorem D_S_init (c : Says K) : ∃ fd, FunD K d_S_init.name d_S_init.qual d_S_init.params d_S_init.body d_S_init.scope [] [] (He.fAd K d_S_init.at_) fd := c.def_ 19 rfl
theorem D_S_moment (c : Says K) : ∃ fd, FunD K d_S_moment.name d_S_moment.qual d_S_moment.params d_S_moment.body d_S_moment.scope [] [] (He.fAd K d_S_moment.at_) fd := c.def_ 20 rfl
theorem D_S_ledger (c : Says K) : ∃ fd, FunD K d_S_ledger.name d_S_ledger.qual d_S_ledger.params d_S_ledger.body d_S_ledger.scope [] [] (He.fAd K d_S_ledger.at_) fd := c.def_ 21 rfl
theorem D_S_pending (c : Says K) : ∃ fd, FunD K d_S_pending.name d_S_pending.qual d_S_pending.params d_S_pending.body d_S_pending.scope [] [] (He.fAd K d_S_pending.at_) fd := c.def_ 22 rfl
theorem D_S_leases (c : Says K) : ∃ fd, FunD K d_S_leases.name d_S_leases.qual d_S_leases.params d_S_leases.body d_S_leases.scope [] [] (He.fAd K d_S_leases.at_) fd := c.def_ 23 rfl
theorem D_S_handle (c : Says K) : ∃ fd, FunD K d_S_handle.name d_S_handle.qual d_S_handle.params d_S_handle.body d_S_handle.scope [] [] (He.fAd K d_S_handle.at_) fd := c.def_ 24 rfl
theorem D_S_handle_fetch (c : Says K) : ∃ fd, FunD K d_S_handle_fetch.name d_S_handle_fetch.qual d_S_handle_fetch.params d_S_handle_fetch.body d_S_handle_fetch.scope [] [] (He.fAd K d_S_handle_fetch.at_) fd := c.def_ 25 rfl
theorem D_S_handle_write (c : Says K) : ∃ fd, FunD K d_S_handle_write.name d_S_handle_write.qual d_S_handle_write.params d_S_handle_write.body d_S_handle_write.scope [] [] (He.fAd K d_S_handle_write.at_) fd := c.def_ 26 rfl
theorem D_S_handle_lease (c : Says K) : ∃ fd, FunD K d_S_handle_lease.name d_S_handle_lease.qual d_S_handle_lease.params d_S_handle_lease.body d_S_handle_lease.scope [] [] (He.fAd K d_S_handle_lease.at_) fd := c.def_ 27 rfl
theorem D_S_leased (c : Says K) : ∃ fd, FunD K d_S_leased.name d_S_leased.qual d_S_leased.params d_S_leased.body d_S_leased.scope [] [] (He.fAd K d_S_leased.at_) fd := c.def_ 28 rfl
theorem D_S_is_awaited (c : Says K) : ∃ fd, FunD K d_S_is_awaited.name d_S_is_awaited.qual d_S_is_awaited.params d_S_is_awaited.body d_S_is_awaited.scope [] [] (He.fAd K d_S_is_awaited.at_) fd := c.def_ 29 rfl
theorem D_S_handle_return (c : Says K) : ∃ fd, FunD K d_S_handle_return.name d_S_handle_return.qual d_S_handle_return.params d_S_handle_return.body d_S_handle_return.scope [] [] (He.fAd K d_S_handle_return.at_) fd := c.def_ 30 rfl
theorem D_S_handle_missing (c : Says K) : ∃ fd, FunD K d_S_handle_missing.name d_S_handle_missing.qual d_S_handle_missing.params d_S_handle_missing.body d_S_handle_missing.scope [] [] (He.fAd K d_S_handle_missing.at_) fd := c.def_ 31 rfl
theorem D_S_note (c : Says K) : ∃ fd, FunD K d_S_note.name d_S_note.qual d_S_note.params d_S_note.body d_S_note.scope [] [] (He.fAd K d_S_note.at_) fd := c.def_ 32 rfl
theorem D_S_recalls (c : Says K) : ∃ fd, FunD K d_S_recalls.name d_S_recalls.qual d_S_recalls.params d_S_recalls.body d_S_recalls.scope [] [] (He.fAd K d_S_recalls.at_) fd := c.def_ 33 rfl
theorem D_S_is_held_up (c : Says K) : ∃ fd, FunD K d_S_is_held_up.name d_S_is_held_up.qual d_S_is_held_up.params d_S_is_held_up.body d_S_is_held_up.scope [] [] (He.fAd K d_S_is_held_up.at_) fd := c.def_ 34 rfl
theorem D_S_settle (c : Says K) : ∃ fd, FunD K d_S_settle.name d_S_settle.qual d_S_settle.params d_S_settle.body d_S_settle.scope [] [] (He.fAd K d_S_settle.at_) fd := c.def_ 35 rfl
theorem D_S_commit (c : Says K) : ∃ fd, FunD K d_S_commit.name d_S_commit.qual d_S_commit.params d_S_commit.body d_S_commit.scope [] [] (He.fAd K d_S_commit.at_) fd := c.def_ 36 rfl
theorem D_w_mix (c : Says K) : ∃ fd, FunD K d_w_mix.name d_w_mix.qual d_w_mix.params d_w_mix.body d_w_mix.scope [] [] (He.fAd K d_w_mix.at_) fd := c.def_ 37 rfl
theorem D_w_number (c : Says K) : ∃ fd, FunD K d_w_number.name d_w_number.qual d_w_number.params d_w_number.body d_w_number.scope [] [] (He.fAd K d_w_number.at_) fd := c.def_ 38 rfl
theorem D_w_state (c : Says K) : ∃ fd, FunD K d_w_state.name d_w_state.qual d_w_state.params d_w_state.body d_w_state.scope [] [] (He.fAd K d_w_state.at_) fd := c.def_ 39 rfl
theorem D_w_draw (c : Says K) : ∃ fd, FunD K d_w_draw.name d_w_draw.qual d_w_draw.params d_w_draw.body d_w_draw.scope [] [] (He.fAd K d_w_draw.at_) fd := c.def_ 40 rfl
theorem D_w_is_integer (c : Says K) : ∃ fd, FunD K d_w_is_integer.name d_w_is_integer.qual d_w_is_integer.params d_w_is_integer.body d_w_is_integer.scope [] [] (He.fAd K d_w_is_integer.at_) fd := c.def_ 41 rfl
theorem D_w_tells (c : Says K) : ∃ fd, FunD K d_w_tells.name d_w_tells.qual d_w_tells.params d_w_tells.body d_w_tells.scope [] [] (He.fAd K d_w_tells.at_) fd := c.def_ 42 rfl
theorem D_w_key (c : Says K) : ∃ fd, FunD K d_w_key.name d_w_key.qual d_w_key.params d_w_key.body d_w_key.scope [] [] (He.fAd K d_w_key.at_) fd := c.def_ 43 rfl
theorem D_w_cover (c : Says K) : ∃ fd, FunD K d_w_cover.name d_w_cover.qual d_w_cover.params d_w_cover.body d_w_cover.scope [] [] (He.fAd K d_w_cover.at_) fd := c.def_ 44 rfl
theorem D_w_question (c : Says K) : ∃ fd, FunD K d_w_question.name d_w_question.qual d_w_question.params d_w_question.body d_w_question.scope [] [] (He.fAd K d_w_question.at_) fd := c.def_ 45 rfl
theorem D_w_cover_of (c : Says K) : ∃ fd, FunD K d_w_cover_of.name d_w_cover_of.qual d_w_cover_of.params d_w_cover_of.body d_w_cover_of.scope [] [] (He.fAd K d_w_cover_of.at_) fd := c.def_ 46 rfl
theorem D_w_group (c : Says K) : ∃ fd, FunD K d_w_group.name d_w_group.qual d_w_group.params d_w_group.body d_w_group.scope [] [] (He.fAd K d_w_group.at_) fd := c.def_ 47 rfl
theorem D_w_at (c : Says K) : ∃ fd, FunD K d_w_at.name d_w_at.qual d_w_at.params d_w_at.body d_w_at.scope [] [] (He.fAd K d_w_at.at_) fd := c.def_ 48 rfl
theorem D_w_rows (c : Says K) : ∃ fd, FunD K d_w_rows.name d_w_rows.qual d_w_rows.params d_w_rows.body d_w_rows.scope [] [] (He.fAd K d_w_rows.at_) fd := c.def_ 49 rfl
theorem D_w_ask (c : Says K) : ∃ fd, FunD K d_w_ask.name d_w_ask.qual d_w_ask.params d_w_ask.body d_w_ask.scope [] [] (He.fAd K d_w_ask.at_) fd := c.def_ 50 rfl
theorem D_w_touches (c : Says K) : ∃ fd, FunD K d_w_touches.name d_w_touches.qual d_w_touches.params d_w_touches.body d_w_touches.scope [] [] (He.fAd K d_w_touches.at_) fd := c.def_ 51 rfl
theorem D_w_reach (c : Says K) : ∃ fd, FunD K d_w_reach.name d_w_reach.qual d_w_reach.params d_w_reach.body d_w_reach.scope [] [] (He.fAd K d_w_reach.at_) fd := c.def_ 52 rfl
theorem D_w_results (c : Says K) : ∃ fd, FunD K d_w_results.name d_w_results.qual d_w_results.params d_w_results.body d_w_results.scope [] [] (He.fAd K d_w_results.at_) fd := c.def_ 53 rfl
theorem D_w_same (c : Says K) : ∃ fd, FunD K d_w_same.name d_w_same.qual d_w_same.params d_w_same.body d_w_same.scope [] [] (He.fAd K d_w_same.at_) fd := c.def_ 54 rfl
theorem D_w_is_right (c : Says K) : ∃ fd, FunD K d_w_is_right.name d_w_is_right.qual d_w_is_right.params d_w_is_right.body d_w_is_right.scope [] [] (He.fAd K d_w_is_right.at_) fd := c.def_ 55 rfl
theorem D_w_promise (c : Says K) : ∃ fd, FunD K d_w_promise.name d_w_promise.qual d_w_promise.params d_w_promise.body d_w_promise.scope [] [] (He.fAd K d_w_promise.at_) fd := c.def_ 56 rfl
theorem D_w_read (c : Says K) : ∃ fd, FunD K d_w_read.name d_w_read.qual d_w_read.params d_w_read.body d_w_read.scope [] [] (He.fAd K d_w_read.at_) fd := c.def_ 57 rfl
theorem D_w_is_true (c : Says K) : ∃ fd, FunD K d_w_is_true.name d_w_is_true.qual d_w_is_true.params d_w_is_true.body d_w_is_true.scope [] [] (He.fAd K d_w_is_true.at_) fd := c.def_ 58 rfl
theorem D_w_within (c : Says K) : ∃ fd, FunD K d_w_within.name d_w_within.qual d_w_within.params d_w_within.body d_w_within.scope [] [] (He.fAd K d_w_within.at_) fd := c.def_ 59 rfl
theorem D_w_supports (c : Says K) : ∃ fd, FunD K d_w_supports.name d_w_supports.qual d_w_supports.params d_w_supports.body d_w_supports.scope [] [] (He.fAd K d_w_supports.at_) fd := c.def_ 60 rfl
theorem D_w_accepts (c : Says K) : ∃ fd, FunD K d_w_accepts.name d_w_accepts.qual d_w_accepts.params d_w_accepts.body d_w_accepts.scope [] [] (He.fAd K d_w_accepts.at_) fd := c.def_ 61 rfl
theorem D_w_statement (c : Says K) : ∃ fd, FunD K d_w_statement.name d_w_statement.qual d_w_statement.params d_w_statement.body d_w_statement.scope [] [] (He.fAd K d_w_statement.at_) fd := c.def_ 62 rfl
theorem D_w_evidence (c : Says K) : ∃ fd, FunD K d_w_evidence.name d_w_evidence.qual d_w_evidence.params d_w_evidence.body d_w_evidence.scope [] [] (He.fAd K d_w_evidence.at_) fd := c.def_ 63 rfl
theorem D_w_store_step (c : Says K) : ∃ fd, FunD K d_w_store_step.name d_w_store_step.qual d_w_store_step.params d_w_store_step.body d_w_store_step.scope [] [] (He.fAd K d_w_store_step.at_) fd := c.def_ 64 rfl
theorem D_w_best_evidence (c : Says K) : ∃ fd, FunD K d_w_best_evidence.name d_w_best_evidence.qual d_w_best_evidence.params d_w_best_evidence.body d_w_best_evidence.scope [] [] (He.fAd K d_w_best_evidence.at_) fd := c.def_ 65 rfl
theorem D_w_answer (c : Says K) : ∃ fd, FunD K d_w_answer.name d_w_answer.qual d_w_answer.params d_w_answer.body d_w_answer.scope [] [] (He.fAd K d_w_answer.at_) fd := c.def_ 66 rfl
theorem D_w_told (c : Says K) : ∃ fd, FunD K d_w_told.name d_w_told.qual d_w_told.params d_w_told.body d_w_told.scope [] [] (He.fAd K d_w_told.at_) fd := c.def_ 67 rfl
theorem D_law (c : Says K) : ∃ fd, FunD K d_law.name d_law.qual d_law.params d_law.body d_law.scope [] [] (He.fAd K d_law.at_) fd := c.def_ 68 rfl
end
end Le

namespace Le
open PySem PySem.Spec PyProof.Rows L2
abbrev hk : PySem.W.Hook := He.hookD 7 fa fn
def ob (s : PySem.W.SharedT) : He.AlD := He.obsDG 7 fa fn (HandSHeadRun.getT s)
theorem ob_eq (s : PySem.W.SharedT) : ob s = hk.obs s.abs := He.obsDG_eq (HandSHeadRun.getT_eq s)
theorem run (w : World) : HandSHeadRun.RunEq R (PySem.W.view R.prog [57]) hk ob 6000 loose w := by
  intro os
  kernel_rfl
end Le

namespace Le
open PySem PySem.Spec PyProof.Rows L2

inductive D where
  | non | bl (b : Bool) | int (i : Int) | str (x : Str) | tup (xs : List D) | lst (xs : List D) | dic (kvs : List (Key × V)) | adr (a : Addr)

mutual
/-- made of flat things and tuples alone -/
def D.imm : D → Bool
  | .non => true
  | .bl _ => true
  | .int _ => true
  | .str _ => true
  | .tup xs => immA xs
  | _ => false
def immA : List D → Bool
  | [] => true
  | d :: ds => d.imm && immA ds
end
theorem immA_all : ∀ {ds : List D}, immA ds = true ↔ ∀ d, d ∈ ds → d.imm = true
  | [] => by
    constructor
    · intro _ d h
      cases h
    · intro _
      rfl
  | d :: ds => by
    show (d.imm && immA ds) = true ↔ _
    rw [Bool.and_eq_true, immA_all (ds := ds)]
    constructor
    · rintro ⟨a, b⟩ x hx
      rcases List.mem_cons.mp hx with rfl | hx
      · exact a
      · exact b x hx
    · intro h
      exact ⟨h d (List.mem_cons.mpr (Or.inl rfl)), fun x hx => h x (List.mem_cons.mpr (Or.inr hx))⟩
theorem immA_map {α : Type} {f : α → D} (h : ∀ x, (f x).imm = true) (l : List α) : immA (l.map f) = true := immA_all.mpr fun d hd => by
  obtain ⟨x, _, rfl⟩ := List.mem_map.mp hd
  exact h x

structure Fr where
  S : Addr → Prop
  U : Addr → Prop
  J : Hp → Prop
  sub : ∀ {a : Addr}, S a → U a
  live : ∀ {H : Hp} {a : Addr}, J H → U a → H a ≠ none
  loc : ∀ {H H' : Hp}, J H → (∀ a o, U a → H a = some o → H' a = some o) → J H'
theorem Fr.same (F : Fr) {H H' : Hp} (j : F.J H) (s : Same H H') : F.J H' := F.loc j fun a o _ h => s a o h
def F0 : Fr := ⟨fun _ => False, fun _ => False, fun _ => True, fun h => h, fun _ h => h.elim, fun _ _ => trivial⟩
def isTup : HO → Bool
  | .tup _ => true
  | _ => false
/-- an object of one's own at p besides -/
def Fr.add (F : Fr) (p : Addr) : Fr where
  S := fun a => F.S a ∨ a = p
  U := fun a => F.U a ∨ a = p
  J := fun H => F.J H ∧ ¬ F.U p ∧ ∃ o, H p = some o ∧ isTup o = false
  sub := fun h => h.imp F.sub id
  live := fun {H a} j u => by
    rcases u with u | rfl
    · exact F.live j.1 u
    · obtain ⟨o, h, _⟩ := j.2.2
      rw [h]
      exact fun z => nomatch z
  loc := fun {H H'} j k => ⟨F.loc j.1 fun a o u h => k a o (Or.inl u) h, j.2.1, by
    obtain ⟨o, h, e⟩ := j.2.2
    exact ⟨o, k p o (Or.inr rfl) h, e⟩⟩

/-- .. that holds o now -/
def Fr.pin (F : Fr) (p : Addr) (o : HO) : Fr where
  S := fun a => F.S a ∨ a = p
  U := fun a => F.U a ∨ a = p
  J := fun H => F.J H ∧ ¬ F.U p ∧ H p = some o ∧ isTup o = false
  sub := fun h => h.imp F.sub id
  live := fun {H a} j u => by
    rcases u with u | rfl
    · exact F.live j.1 u
    · rw [j.2.2.1]
      exact fun z => nomatch z
  loc := fun {H H'} j k => ⟨F.loc j.1 fun a o u h => k a o (Or.inl u) h, j.2.1, k p o (Or.inr rfl) j.2.2.1, j.2.2.2⟩
structure Ext (F : Fr) (H H' : Hp) : Prop where
  j : F.J H'
  k : ∀ a o, ¬ F.S a → H a = some o → H' a = some o
  t : ∀ a xs, H a = some (.tup xs) → H' a = some (.tup xs)
section
variable {F : Fr} {H H' H0 H1 H2 : Hp} {p : Addr} {o : HO}
theorem Ext.refl (j : F.J H) : Ext F H H := ⟨j, fun _ _ _ h => h, fun _ _ h => h⟩
theorem Ext.trans (a : Ext F H H1) (b : Ext F H1 H2) : Ext F H H2 := ⟨b.j, fun x o s h => b.k x o s (a.k x o s h), fun x xs h => b.t x xs (a.t x xs h)⟩
theorem same_new (h : H p = none) : Same H (upd H p o) := fun b u e => by
  rw [upd_ne (ne_of_none e h)]
  exact e
theorem Ext.same (e : Ext F H H1) (s : Same H1 H2) : Ext F H H2 := ⟨F.same e.j s, fun a o hs h => s a o (e.k a o hs h), fun a xs h => s a _ (e.t a xs h)⟩
theorem Ext.new (e : Ext F H H1) (h : H1 p = none) : Ext F H (upd H1 p o) := e.same (same_new h)
theorem Ext.freshU (e : Ext F H H1) (h : H1 p = none) : ¬ F.U p := fun s => F.live e.j s h
theorem Ext.fresh (e : Ext F H H1) (h : H1 p = none) : ¬ F.S p := fun s => e.freshU h (F.sub s)
theorem Ext.back (e : Ext F H H1) (h : H1 p = none) : H p = none := by
  cases q : H p with
  | none => rfl
  | some o =>
    have z := e.k p o (e.fresh h) q
    rw [h] at z
    cases z
theorem Ext.of0 (e : Ext F0 H H1) : Same H H1 := fun a o h => e.k a o (fun z => z) h
theorem Ext.to0 (s : Same H H1) : Ext F0 H H1 := ⟨trivial, fun a o _ h => s a o h, fun a xs h => s a _ h⟩
theorem Ext.ofSame (j : F.J H) (s : Same H H1) : Ext F H H1 := (Ext.refl j).same s
/-- a new object of one's own: the frame grows -/
theorem Ext.add (e : Ext F H H1) (h : H1 p = none) (hu : isTup o = false) : Ext (F.add p) (upd H1 p o) (upd H1 p o) :=
  Ext.refl ⟨F.same e.j (same_new h), e.freshU h, o, upd_same, hu⟩
/-- .. is changed -/
theorem Ext.mut {u : HO} (e : Ext (F.add p) H H1) (hu : isTup u = false) : Ext (F.add p) H (upd H1 p u) := by
  obtain ⟨j1, j2, o, ho, hot⟩ := e.j
  refine ⟨⟨F.loc j1 fun a o ua h => ?_, j2, u, upd_same, hu⟩, fun a x s h => ?_, fun a xs h => ?_⟩
  · rw [upd_ne fun z => j2 (by rw [← z]; exact ua)]
    exact h
  · rw [upd_ne fun z => s (Or.inr z)]
    exact e.k a x s h
  · have q := e.t a xs h
    rw [upd_ne fun z => by rw [z, ho] at q; cases q; cases hot]
    exact q
theorem Ext.drop' {o : HO} (h0 : H p = none) (e : Ext (F.add p) (upd H p o) H1) : Ext F H H1 :=
  ⟨e.j.1, fun a x s h => e.k a x (fun z => z.elim s fun q => by rw [q, h0] at h; cases h) (by rw [upd_ne (ne_of_none h h0)]; exact h), fun a xs h => e.t a xs (by rw [upd_ne (ne_of_none h h0)]; exact h)⟩
theorem pin_j {o : HO} (j : (F.add p).J H) (h : H p = some o) (ht : isTup o = false) : (F.pin p o).J H := ⟨j.1, j.2.1, h, ht⟩
theorem pin_new {o : HO} (j : F.J H) (h : H p = none) (ht : isTup o = false) : (F.pin p o).J (upd H p o) := ⟨F.same j (same_new h), fun u => F.live j u h, upd_same, ht⟩
theorem Ext.unpin {o : HO} (e : Ext (F.pin p o) H H1) : Ext (F.add p) H H1 := ⟨⟨e.j.1, e.j.2.1, o, e.j.2.2⟩, e.k, e.t⟩
theorem Ext.at_ {o : HO} (e : Ext (F.pin p o) H H1) : H1 p = some o := e.j.2.2.1
/-- .. is changed: the new heap -/
theorem Ext.put {o u : HO} (e : Ext (F.pin p o) H H1) (hu : isTup u = false) : Ext (F.add p) H (upd H1 p u) := e.unpin.mut hu
theorem put_j {o u : HO} (j : (F.pin p o).J H) (hu : isTup u = false) : (F.pin p u).J (upd H p u) :=
  ⟨F.loc j.1 fun a x ua h => by rw [upd_ne fun z => j.2.1 (by rw [← z]; exact ua)]; exact h, j.2.1, upd_same, hu⟩
theorem Ext.ofPin {o : HO} (h0 : H p = none) (e : Ext (F.pin p o) (upd H p o) H1) : Ext F H H1 := Ext.drop' h0 e.unpin
/-- .. is done with -/
theorem Ext.drop (h0 : H p = none) (e : Ext (F.add p) (upd H p o) H1) : Ext F H H1 :=
  ⟨e.j.1, fun a x s h => e.k a x (fun z => z.elim s fun q => by rw [q, h0] at h; cases h) (by rw [upd_ne (ne_of_none h h0)]; exact h), fun a xs h => e.t a xs (by rw [upd_ne (ne_of_none h h0)]; exact h)⟩
end

mutual
inductive Dv (F : Fr) (H : Hp) : V → D → Prop
  | non : Dv F H .non .non
  | bl (b : Bool) : Dv F H (.bl b) (.bl b)
  | int (i : Int) : Dv F H (.int i) (.int i)
  | str (x : Str) : Dv F H (.str x) (.str x)
  | adr (a : Addr) : Dv F H (.ref a) (.adr a)
  | tup {a : Addr} {xs : List V} {ds : List D} : H a = some (.tup xs) → DvA F H xs ds → Dv F H (.ref a) (.tup ds)
  | lst {a : Addr} {xs : List V} {ds : List D} : ¬ F.S a → H a = some (.lst xs) → DvA F H xs ds → Dv F H (.ref a) (.lst ds)
  | dic {a : Addr} {kvs : List (Key × V)} : ¬ F.S a → H a = some (.dK kvs) → Dv F H (.ref a) (.dic kvs)
inductive DvA (F : Fr) (H : Hp) : List V → List D → Prop
  | nil : DvA F H [] []
  | cons {v : V} {vs : List V} {d : D} {ds : List D} : Dv F H v d → DvA F H vs ds → DvA F H (v :: vs) (d :: ds)
end
section
variable {F F' : Fr} {H H' H1 : Hp} {v x : V} {d : D} {xs vs : List V} {ds : List D}
mutual
theorem Dv.mono (e : Ext F H H') : ∀ {v : V} {d : D}, Dv F H v d → Dv F H' v d
  | _, _, .non => .non
  | _, _, .bl b => .bl b
  | _, _, .int i => .int i
  | _, _, .str x => .str x
  | _, _, .adr a => .adr a
  | _, _, .tup h r => .tup (e.t _ _ h) (DvA.mono e r)
  | _, _, .lst s h r => .lst s (e.k _ _ s h) (DvA.mono e r)
  | _, _, .dic s h => .dic s (e.k _ _ s h)
theorem DvA.mono (e : Ext F H H') : ∀ {vs : List V} {ds : List D}, DvA F H vs ds → DvA F H' vs ds
  | _, _, .nil => .nil
  | _, _, .cons h r => .cons (Dv.mono e h) (DvA.mono e r)
end
mutual
theorem Dv.cast (t : ∀ a xs, H a = some (.tup xs) → H' a = some (.tup xs)) : ∀ {v : V} {d : D}, Dv F H v d → d.imm = true → Dv F' H' v d
  | _, _, .non, _ => .non
  | _, _, .bl b, _ => .bl b
  | _, _, .int i, _ => .int i
  | _, _, .str x, _ => .str x
  | _, _, .adr _, i => nomatch (show false = true from i)
  | _, _, .tup h r, i => .tup (t _ _ h) (DvA.cast t r i)
  | _, _, .lst _ _ _, i => nomatch (show false = true from i)
  | _, _, .dic _ _, i => nomatch (show false = true from i)
theorem DvA.cast (t : ∀ a xs, H a = some (.tup xs) → H' a = some (.tup xs)) : ∀ {vs : List V} {ds : List D}, DvA F H vs ds → immA ds = true → DvA F' H' vs ds
  | _, _, .nil, _ => .nil
  | _, _, .cons h r, i => .cons (Dv.cast t h (Bool.and_eq_true_iff.mp i).1) (DvA.cast t r (Bool.and_eq_true_iff.mp i).2)
end
theorem DvA.len : ∀ {vs : List V} {ds : List D}, DvA F H vs ds → vs.length = ds.length
  | _, _, .nil => rfl
  | _, _, .cons _ r => congrArg Nat.succ r.len
theorem DvA.getV : ∀ {vs : List V} {ds : List D} {i : Nat} {v : V}, DvA F H vs ds → vs[i]? = some v → ∃ d, ds[i]? = some d ∧ Dv F H v d
  | _, _, _, _, .nil, e => by simp at e
  | _, _, 0, _, .cons h _, e => by simp at e; subst e; exact ⟨_, rfl, h⟩
  | _, _, i + 1, v, .cons _ r, e => by
    obtain ⟨d, h1, h2⟩ := r.getV (i := i) (v := v) (by simpa using e)
    exact ⟨d, by simpa using h1, h2⟩
theorem DvA.getD : ∀ {vs : List V} {ds : List D} {i : Nat} {d : D}, DvA F H vs ds → ds[i]? = some d → ∃ v, vs[i]? = some v ∧ Dv F H v d
  | _, _, _, _, .nil, e => by simp at e
  | _, _, 0, _, .cons h _, e => by simp at e; subst e; exact ⟨_, rfl, h⟩
  | _, _, i + 1, d, .cons _ r, e => by
    obtain ⟨v, h1, h2⟩ := r.getD (i := i) (d := d) (by simpa using e)
    exact ⟨v, by simpa using h1, h2⟩
theorem DvA.app : ∀ {vs ws : List V} {ds es : List D}, DvA F H vs ds → DvA F H ws es → DvA F H (vs ++ ws) (ds ++ es)
  | _, _, _, _, .nil, h => h
  | _, _, _, _, .cons h r, q => .cons h (r.app q)
theorem DvA.snoc (h : DvA F H vs ds) (q : Dv F H v d) : DvA F H (vs ++ [v]) (ds ++ [d]) := h.app (.cons q .nil)
theorem DvA.drop : ∀ {vs : List V} {ds : List D} (n : Nat), DvA F H vs ds → DvA F H (vs.drop n) (ds.drop n)
  | _, _, 0, r => r
  | _, _, _ + 1, .nil => .nil
  | _, _, n + 1, .cons _ t => DvA.drop n t
theorem DvA.take : ∀ {vs : List V} {ds : List D} (n : Nat), DvA F H vs ds → DvA F H (vs.take n) (ds.take n)
  | _, _, 0, _ => .nil
  | _, _, _ + 1, .nil => .nil
  | _, _, n + 1, .cons h t => .cons h (DvA.take n t)
theorem DvA.set : ∀ {vs : List V} {ds : List D} (n : Nat) {v : V} {d : D}, DvA F H vs ds → Dv F H v d → DvA F H (vs.set n v) (ds.set n d)
  | _, _, _, _, _, .nil, _ => .nil
  | _, _, 0, _, _, .cons _ t, h => .cons h t
  | _, _, n + 1, _, _, .cons q t, h => .cons q (DvA.set n t h)
theorem DvA.cons_inv (h : DvA F H vs (d :: ds)) : ∃ v ws, vs = v :: ws ∧ Dv F H v d ∧ DvA F H ws ds := by
  cases h with
  | cons a b => exact ⟨_, _, rfl, a, b⟩
theorem DvA.nil_inv (h : DvA F H vs []) : vs = [] := by
  cases h
  rfl
theorem DvA.one (h : DvA F H vs [d]) : ∃ v, vs = [v] ∧ Dv F H v d := by
  obtain ⟨v, ws, rfl, a, b⟩ := h.cons_inv
  cases b.nil_inv
  exact ⟨v, rfl, a⟩
theorem Dv.tup_inv (h : Dv F H v (.tup ds)) : ∃ a xs, v = .ref a ∧ H a = some (.tup xs) ∧ DvA F H xs ds := by
  cases h with
  | tup a b => exact ⟨_, _, rfl, a, b⟩
theorem Dv.lst_inv (h : Dv F H v (.lst ds)) : ∃ a xs, v = .ref a ∧ ¬ F.S a ∧ H a = some (.lst xs) ∧ DvA F H xs ds := by
  cases h with
  | lst s a b => exact ⟨_, _, rfl, s, a, b⟩
theorem Dv.dic_inv {kvs : List (Key × V)} (h : Dv F H v (.dic kvs)) : ∃ a, v = .ref a ∧ ¬ F.S a ∧ H a = some (.dK kvs) := by
  cases h with
  | dic s a => exact ⟨_, rfl, s, a⟩
theorem Dv.int_inv {i : Int} (h : Dv F H v (.int i)) : v = .int i := by
  cases h
  rfl
theorem Dv.bl_inv {i : Bool} (h : Dv F H v (.bl i)) : v = .bl i := by
  cases h
  rfl
theorem Dv.str_inv {i : Str} (h : Dv F H v (.str i)) : v = .str i := by
  cases h
  rfl
theorem Dv.adr_inv {i : Addr} (h : Dv F H v (.adr i)) : v = .ref i := by
  cases h
  rfl
theorem Dv.non_inv (h : Dv F H v .non) : v = .non := by
  cases h
  rfl
end

section
variable {F : Fr} {H : Hp} {p : Addr} {o : HO}
mutual
theorem Dv.add (h0 : H p = none) : ∀ {v : V} {d : D}, Dv F H v d → Dv (F.add p) (upd H p o) v d
  | _, _, .non => .non
  | _, _, .bl b => .bl b
  | _, _, .int i => .int i
  | _, _, .str x => .str x
  | _, _, .adr a => .adr a
  | _, _, .tup h r => .tup (by rw [upd_ne (ne_of_none h h0)]; exact h) (DvA.add h0 r)
  | _, _, .lst s h r => .lst (fun z => z.elim s fun q => ne_of_none h h0 q) (by rw [upd_ne (ne_of_none h h0)]; exact h) (DvA.add h0 r)
  | _, _, .dic s h => .dic (fun z => z.elim s fun q => ne_of_none h h0 q) (by rw [upd_ne (ne_of_none h h0)]; exact h)
theorem DvA.add (h0 : H p = none) : ∀ {vs : List V} {ds : List D}, DvA F H vs ds → DvA (F.add p) (upd H p o) vs ds
  | _, _, .nil => .nil
  | _, _, .cons h r => .cons (Dv.add h0 h) (DvA.add h0 r)
end
mutual
theorem Dv.sub : ∀ {v : V} {d : D}, Dv (F.add p) H v d → Dv F H v d
  | _, _, .non => .non
  | _, _, .bl b => .bl b
  | _, _, .int i => .int i
  | _, _, .str x => .str x
  | _, _, .adr a => .adr a
  | _, _, .tup h r => .tup h (DvA.sub r)
  | _, _, .lst s h r => .lst (fun z => s (Or.inl z)) h (DvA.sub r)
  | _, _, .dic s h => .dic (fun z => s (Or.inl z)) h
theorem DvA.sub : ∀ {vs : List V} {ds : List D}, DvA (F.add p) H vs ds → DvA F H vs ds
  | _, _, .nil => .nil
  | _, _, .cons h r => .cons (Dv.sub h) (DvA.sub r)
end
end

section
variable {F : Fr} {H : Hp} {p : Addr} {o : HO}
mutual
theorem Dv.pin : ∀ {v : V} {d : D}, Dv (F.add p) H v d → Dv (F.pin p o) H v d
  | _, _, .non => .non
  | _, _, .bl b => .bl b
  | _, _, .int i => .int i
  | _, _, .str x => .str x
  | _, _, .adr a => .adr a
  | _, _, .tup h r => .tup h (DvA.pin r)
  | _, _, .lst s h r => .lst s h (DvA.pin r)
  | _, _, .dic s h => .dic s h
theorem DvA.pin : ∀ {vs : List V} {ds : List D}, DvA (F.add p) H vs ds → DvA (F.pin p o) H vs ds
  | _, _, .nil => .nil
  | _, _, .cons h r => .cons (Dv.pin h) (DvA.pin r)
end
mutual
theorem Dv.unpin : ∀ {v : V} {d : D}, Dv (F.pin p o) H v d → Dv (F.add p) H v d
  | _, _, .non => .non
  | _, _, .bl b => .bl b
  | _, _, .int i => .int i
  | _, _, .str x => .str x
  | _, _, .adr a => .adr a
  | _, _, .tup h r => .tup h (DvA.unpin r)
  | _, _, .lst s h r => .lst s h (DvA.unpin r)
  | _, _, .dic s h => .dic s h
theorem DvA.unpin : ∀ {vs : List V} {ds : List D}, DvA (F.pin p o) H vs ds → DvA (F.add p) H vs ds
  | _, _, .nil => .nil
  | _, _, .cons h r => .cons (Dv.unpin h) (DvA.unpin r)
end
end

def EvP (F : Fr) (te : TE) (σ : L2.St) (H : Hp) (P : V → Hp → Prop) : Prop := ∀ H1, Ext F H H1 → ∀ Q : VK, (∀ v H2, Ext F H1 H2 → P v H2 → Q v H2) → te σ H1 Q
def Ev (F : Fr) (te : TE) (σ : L2.St) (H : Hp) (d : D) : Prop := ∀ H1, Ext F H H1 → ∀ Q : VK, (∀ v H2, Ext F H1 H2 → Dv F H2 v d → Q v H2) → te σ H1 Q
def EvA (F : Fr) (ta : TA) (σ : L2.St) (H : Hp) (ds : List D) : Prop := ∀ H1, Ext F H H1 → ∀ Q : List V → Hp → Prop, (∀ vs H2, Ext F H1 H2 → DvA F H2 vs ds → Q vs H2) → ta σ H1 Q
def EvT (F : Fr) (tt : TT) (σ : L2.St) (H : Hp) (b : Bool) : Prop := ∀ H1, Ext F H H1 → ∀ Q : Bool → Hp → Prop, (∀ H2, Ext F H1 H2 → Q b H2) → tt σ H1 Q
/-- an operator on two values; a call of a built-in on values -/
def RV (F : Fr) (r : R2) (d1 d2 : D) (H : Hp) (d : D) : Prop := ∀ x y H1, Ext F H H1 → Dv F H1 x d1 → Dv F H1 y d2 → ∀ Q : VK, (∀ v H2, Ext F H1 H2 → Dv F H2 v d → Q v H2) → r x y H1 Q
def RC (F : Fr) (r : List V → Hp → VK → Prop) (ds : List D) (H : Hp) (d : D) : Prop := ∀ vs H1, Ext F H H1 → DvA F H1 vs ds → ∀ Q : VK, (∀ v H2, Ext F H1 H2 → Dv F H2 v d → Q v H2) → r vs H1 Q
section
variable {F : Fr} {K : PySem.W.Frag} {σ : L2.St} {H H1 : Hp} {ta tb tc te : TE} {t u : TT} {v : V} {d d1 d2 d3 : D} {ds es : List D} {i j k : Int} {x y : Str} {b b1 b2 : Bool} {r r' : R2}
theorem Ev.mono (e : Ext F H H1) (h : Ev F te σ H d) : Ev F te σ H1 d := fun H2 e2 Q q => h H2 (e.trans e2) Q q
theorem EvT.mono (e : Ext F H H1) (h : EvT F t σ H b) : EvT F t σ H1 b := fun H2 e2 Q q => h H2 (e.trans e2) Q q
theorem Ev.to (h : Ev F te σ H d1) (e : d1 = d2) : Ev F te σ H d2 := e ▸ h
theorem EvT.to (h : EvT F t σ H b1) (e : b1 = b2) : EvT F t σ H b2 := e ▸ h
/-- the use of it -/
theorem Ev.use (h : Ev F te σ H d) (jj : F.J H) {Q : VK} (q : ∀ v H2, Ext F H H2 → Dv F H2 v d → Q v H2) : te σ H Q := h H (Ext.refl jj) Q q
theorem EvP.use {P : V → Hp → Prop} (h : EvP F te σ H P) (jj : F.J H) {Q : VK} (q : ∀ v H2, Ext F H H2 → P v H2 → Q v H2) : te σ H Q := h H (Ext.refl jj) Q q
theorem EvT.use (h : EvT F t σ H b) (jj : F.J H) {Q : Bool → Hp → Prop} (q : ∀ H2, Ext F H H2 → Q b H2) : t σ H Q := h H (Ext.refl jj) Q q
theorem EvA.use {ta : TA} (h : EvA F ta σ H ds) (jj : F.J H) {Q : List V → Hp → Prop} (q : ∀ vs H2, Ext F H H2 → DvA F H2 vs ds → Q vs H2) : ta σ H Q := h H (Ext.refl jj) Q q

theorem ev_var {i : Nat} (h : σ[i]? = some (some v)) (hd : Dv F H v d) : Ev F (tVar i) σ H d := fun H1 e Q q => ⟨v, h, q v H1 (Ext.refl e.j) (hd.mono e)⟩
theorem ev_int : Ev F (tC (.int i)) σ H (.int i) := fun H1 e Q q => q _ H1 (Ext.refl e.j) (.int i)
theorem ev_str : Ev F (tC (.str x)) σ H (.str x) := fun H1 e Q q => q _ H1 (Ext.refl e.j) (.str x)
theorem ev_bl : Ev F (tC (.bl b)) σ H (.bl b) := fun H1 e Q q => q _ H1 (Ext.refl e.j) (.bl b)
theorem ev_non : Ev F (tC .non) σ H .non := fun H1 e Q q => q _ H1 (Ext.refl e.j) .non
theorem ev_op (ha : Ev F ta σ H d1) (hb : Ev F tb σ H d2) (hr : RV F r d1 d2 H d) : Ev F (tOp r ta tb) σ H d :=
  fun H1 e Q q => ha H1 e _ fun x H2 e2 h2 => hb H2 (e.trans e2) _ fun y H3 e3 h3 => hr x y H3 ((e.trans e2).trans e3) (h2.mono e3) h3 Q fun v H4 e4 h4 => q v H4 ((e2.trans e3).trans e4) h4
theorem rv_I0 {g : Int → Int → V} (hg : ∀ H1, Dv F H1 (g i j) d) : RV F (rI0 g) (.int i) (.int j) H d := fun x y H1 e hx hy Q q => by
  cases hx.int_inv
  cases hy.int_inv
  exact ⟨i, j, rfl, rfl, q _ H1 (Ext.refl e.j) (hg H1)⟩
theorem rv_I {C : Int → Int → Prop} {g : Int → Int → V} (hc : C i j) (hg : ∀ H1, Dv F H1 (g i j) d) : RV F (rI C g) (.int i) (.int j) H d := fun x y H1 e hx hy Q q => by
  cases hx.int_inv
  cases hy.int_inv
  exact ⟨i, j, rfl, rfl, hc, q _ H1 (Ext.refl e.j) (hg H1)⟩
theorem rv_add : RV F (rI0 fun i j => .int (i + j)) (.int i) (.int j) H (.int (i + j)) := rv_I0 fun _ => .int _
theorem rv_sub : RV F (rI0 fun i j => .int (i - j)) (.int i) (.int j) H (.int (i - j)) := rv_I0 fun _ => .int _
theorem rv_lt : RV F (rI0 fun i j => .bl (decide (i < j))) (.int i) (.int j) H (.bl (decide (i < j))) := rv_I0 fun _ => .bl _
theorem rv_le : RV F (rI0 fun i j => .bl (decide (i ≤ j))) (.int i) (.int j) H (.bl (decide (i ≤ j))) := rv_I0 fun _ => .bl _
theorem rv_gt : RV F (rI0 fun i j => .bl (decide (j < i))) (.int i) (.int j) H (.bl (decide (j < i))) := rv_I0 fun _ => .bl _
theorem rv_ge : RV F (rI0 fun i j => .bl (decide (j ≤ i))) (.int i) (.int j) H (.bl (decide (j ≤ i))) := rv_I0 fun _ => .bl _
/-- texts -/
def ltS (x y : Str) : Bool := decide (x.cps.toList < y.cps.toList)
def leS (x y : Str) : Bool := !ltS y x
def rS (g : Str → Str → Bool) : R2 := fun x y H Q => ∃ i j, x = .str i ∧ y = .str j ∧ Q (.bl (g i j)) H
theorem op_ltS {X : Cx} : OpR X (compareOp .Lt) (rS ltS) := op_lt_str
theorem op_leS {X : Cx} : OpR X (compareOp .LtE) (rS leS) := op_le_str
theorem op_gtS {X : Cx} : OpR X (compareOp .Gt) (rS fun x y => ltS y x) := op_gt_str
theorem rv_S {g : Str → Str → Bool} : RV F (rS g) (.str x) (.str y) H (.bl (g x y)) := fun v w H1 e hx hy Q q => by
  cases hx.str_inv
  cases hy.str_inv
  exact ⟨x, y, rfl, rfl, q _ H1 (Ext.refl e.j) (.bl _)⟩
theorem decV {α : Type} [DecidableEq α] {f : α → V} (hf : ∀ a b, f a = f b → a = b) {a b : α} : decide (f a = f b) = decide (a = b) := by
  by_cases h : a = b
  · rw [decide_eq_true h, decide_eq_true (congrArg f h)]
  · rw [decide_eq_false h, decide_eq_false fun q => h (hf _ _ q)]
theorem rv_eqS : RV F rEq (.str x) (.str y) H (.bl (decide (x = y))) := fun v w H1 e hx hy Q q => by
  cases hx.str_inv
  cases hy.str_inv
  refine ⟨rfl, ?_⟩
  rw [decV (f := V.str) fun _ _ => V.str.inj]
  exact q _ H1 (Ext.refl e.j) (.bl _)
theorem rv_neS : RV F rNe (.str x) (.str y) H (.bl (!decide (x = y))) := fun v w H1 e hx hy Q q => by
  cases hx.str_inv
  cases hy.str_inv
  refine ⟨rfl, ?_⟩
  rw [decV (f := V.str) fun _ _ => V.str.inj]
  exact q _ H1 (Ext.refl e.j) (.bl _)
theorem rv_eqI : RV F rEq (.int i) (.int j) H (.bl (decide (i = j))) := fun v w H1 e hx hy Q q => by
  cases hx.int_inv
  cases hy.int_inv
  refine ⟨rfl, ?_⟩
  rw [decV (f := V.int) fun _ _ => V.int.inj]
  exact q _ H1 (Ext.refl e.j) (.bl _)
theorem rv_neI : RV F rNe (.int i) (.int j) H (.bl (!decide (i = j))) := fun v w H1 e hx hy Q q => by
  cases hx.int_inv
  cases hy.int_inv
  refine ⟨rfl, ?_⟩
  rw [decV (f := V.int) fun _ _ => V.int.inj]
  exact q _ H1 (Ext.refl e.j) (.bl _)
/-- is None, is True -/
def isN : D → Bool
  | .non => true
  | _ => false
theorem isN_of (h : Dv F H v d) : decide (v = .non) = isN d := by
  cases h <;> rfl
def rIsN' : R2 := fun x y H Q => y = .non ∧ Q (.bl (decide (x = .non))) H
def rNotN' : R2 := fun x y H Q => y = .non ∧ Q (.bl (!decide (x = .non))) H
theorem op_isN' {X : Cx} : OpR X (compareOp .Is) rIsN' := op_isN
theorem op_notN' {X : Cx} : OpR X (compareOp .IsNot) rNotN' := op_notN
theorem rv_isN : RV F rIsN' d .non H (.bl (isN d)) := fun v w H1 e hx hy Q q => by
  cases hy.non_inv
  refine ⟨rfl, ?_⟩
  rw [isN_of hx]
  exact q _ H1 (Ext.refl e.j) (.bl _)
theorem rv_notN : RV F rNotN' d .non H (.bl (!isN d)) := fun v w H1 e hx hy Q q => by
  cases hy.non_inv
  refine ⟨rfl, ?_⟩
  rw [isN_of hx]
  exact q _ H1 (Ext.refl e.j) (.bl _)
theorem rv_isB : RV F rIsB (.bl b1) (.bl b2) H (.bl (decide (b1 = b2))) := fun v w H1 e hx hy Q q => by
  cases hx.bl_inv
  cases hy.bl_inv
  exact ⟨b1, b2, rfl, rfl, q _ H1 (Ext.refl e.j) (.bl _)⟩
/-- items -/
theorem atI_of {ds : List D} {vs : List V} {F : Fr} {H : Hp} (h : DvA F H vs ds) (e : atI ds i = some d) : ∃ v, atI vs i = some v ∧ Dv F H v d := by
  unfold atI at e ⊢
  rw [← h.len] at e
  cases q : ixN vs.length i with
  | none => rw [q] at e; cases e
  | some j =>
    rw [q] at e
    exact h.getD e
theorem rv_ixT (ha : atI ds i = some d) : RV F (rIxT K) (.tup ds) (.int i) H d := fun v w H1 e hx hy Q q => by
  obtain ⟨a, xs, rfl, h, hs⟩ := hx.tup_inv
  cases hy.int_inv
  obtain ⟨z, hz, dz⟩ := atI_of hs ha
  exact ⟨a, xs, i, z, rfl, rfl, SqT.of h, hz, q z H1 (Ext.refl e.j) dz⟩
theorem rv_ixL (ha : atI ds i = some d) : RV F (rIxL K) (.lst ds) (.int i) H d := fun v w H1 e hx hy Q q => by
  obtain ⟨a, xs, rfl, s, h, hs⟩ := hx.lst_inv
  cases hy.int_inv
  obtain ⟨z, hz, dz⟩ := atI_of hs ha
  exact ⟨a, xs, i, z, rfl, rfl, SqL.of h, hz, q z H1 (Ext.refl e.j) dz⟩
theorem ev_chain (ha : Ev F ta σ H d1) (hb : Ev F tb σ H d2) (hc : Ev F tc σ H d3) (hr : RV F r d1 d2 H (.bl b1)) (hr' : RV F r' d2 d3 H (.bl b2)) : Ev F (tChain r r' ta tb tc) σ H (.bl (b1 && b2)) :=
  fun H1 e Q q => ha H1 e _ fun x H2 e2 h2 => hb H2 (e.trans e2) _ fun y H3 e3 h3 => hr x y H3 ((e.trans e2).trans e3) (h2.mono e3) h3 _ fun z H4 e4 h4 => by
    cases h4.bl_inv
    refine ⟨b1, rfl, ?_⟩
    cases b1 with
    | true => exact iteT (hc H4 (((e.trans e2).trans e3).trans e4) _ fun w H5 e5 h5 => hr' y w H5 ((((e.trans e2).trans e3).trans e4).trans e5) ((h3.mono e4).mono e5) h5 Q fun v H6 e6 h6 => q v H6 ((((e2.trans e3).trans e4).trans e5).trans e6) h6)
    | false => exact iteF (q _ H4 ((e2.trans e3).trans e4) (.bl _))
/-- and, or, not -/
theorem ev_and (h1 : Ev F ta σ H (.bl b1)) (h2 : b1 = true → Ev F tb σ H (.bl b2)) : Ev F (tAndV ta tb) σ H (.bl (b1 && b2)) := fun H1 e Q q => h1 H1 e _ fun x H2 e2 hx => by
  cases hx.bl_inv
  refine ⟨b1, rfl, ?_⟩
  cases b1 with
  | true => exact iteT (h2 rfl H2 (e.trans e2) Q fun v H3 e3 h3 => q v H3 (e2.trans e3) h3)
  | false => exact iteF (q _ H2 e2 (.bl _))
theorem ev_or (h1 : Ev F ta σ H (.bl b1)) (h2 : b1 = false → Ev F tb σ H (.bl b2)) : Ev F (tOrV ta tb) σ H (.bl (b1 || b2)) := fun H1 e Q q => h1 H1 e _ fun x H2 e2 hx => by
  cases hx.bl_inv
  refine ⟨b1, rfl, ?_⟩
  cases b1 with
  | true => exact iteT (q _ H2 e2 (.bl _))
  | false => exact iteF (h2 rfl H2 (e.trans e2) Q fun v H3 e3 h3 => q v H3 (e2.trans e3) h3)
theorem ev_not (h1 : Ev F ta σ H (.bl b1)) : Ev F (tNotV ta) σ H (.bl (!b1)) := fun H1 e Q q => h1 H1 e _ fun x H2 e2 hx => by
  cases hx.bl_inv
  exact ⟨b1, rfl, q _ H2 e2 (.bl _)⟩
theorem et_and (h1 : EvT F t σ H b1) (h2 : b1 = true → EvT F u σ H b2) : EvT F (tAnd t u) σ H (b1 && b2) := fun H1 e Q q => h1 H1 e _ fun H2 e2 => by
  cases b1 with
  | true => exact iteT (h2 rfl H2 (e.trans e2) Q fun H3 e3 => q H3 (e2.trans e3))
  | false => exact iteF (q H2 e2)
theorem et_or (h1 : EvT F t σ H b1) (h2 : b1 = false → EvT F u σ H b2) : EvT F (tOr t u) σ H (b1 || b2) := fun H1 e Q q => h1 H1 e _ fun H2 e2 => by
  cases b1 with
  | true => exact iteT (q H2 e2)
  | false => exact iteF (h2 rfl H2 (e.trans e2) Q fun H3 e3 => q H3 (e2.trans e3))
theorem et_not (h1 : EvT F t σ H b1) : EvT F (tNot t) σ H (!b1) := fun H1 e Q q => h1 H1 e _ fun H2 e2 => q H2 e2
theorem et_test (h : Ev F te σ H (.bl b)) : EvT F (tTest te) σ H b := fun H1 e Q q => h H1 e _ fun v H2 e2 hv => ⟨b, hv.bl_inv, q H2 e2⟩
theorem et_B (h : Ev F te σ H (.bl b)) : EvT F (tB te) σ H b := fun H1 e Q q => h H1 e _ fun v H2 e2 hv => ⟨b, hv.bl_inv, q H2 e2⟩
/-- the truth of a value -/
def tTru (K : PySem.W.Frag) (ta : TE) : TT := fun σ H Q => ta σ H fun x H' => ∃ k, TruV K x H' k ∧ Q k H'
def truD : D → Option Bool
  | .non => some false
  | .bl b => some b
  | .int i => some (i != 0)
  | .tup xs => some (!xs.isEmpty)
  | .lst xs => some (!xs.isEmpty)
  | _ => none
theorem emp_of (h : DvA F H vs ds) : (!vs.isEmpty) = !ds.isEmpty := by
  cases h <;> rfl
theorem tru_of (h : Dv F H v d) (e : truD d = some b) : TruV K v H b := by
  cases h with
  | non => exact (Option.some.inj e).symm
  | bl => exact (Option.some.inj e).symm
  | int => exact (Option.some.inj e).symm
  | str => cases e
  | adr => cases e
  | tup a r => exact Or.inr (Or.inl ⟨_, SqT.of a, (Option.some.inj e).symm.trans (emp_of r).symm⟩)
  | lst s a r => exact Or.inl ⟨_, SqL.of a, (Option.some.inj e).symm.trans (emp_of r).symm⟩
  | dic => cases e
theorem et_tru (h : Ev F te σ H d) (e : truD d = some b) : EvT F (tTru K te) σ H b := fun H1 e1 Q q => h H1 e1 _ fun v H2 e2 hv => ⟨b, tru_of hv e, q H2 e2⟩
theorem ev_if (h : EvT F t σ H b) (h1 : b = true → Ev F ta σ H d1) (h2 : b = false → Ev F tb σ H d2) : Ev F (tIf t ta tb) σ H (if b = true then d1 else d2) := fun H1 e Q q => h H1 e _ fun H2 e2 => by
  cases b with
  | true =>
    refine iteT (h1 rfl H2 (e.trans e2) Q fun v H3 e3 h3 => q v H3 (e2.trans e3) ?_)
    rw [if_pos rfl]
    exact h3
  | false =>
    refine iteF (h2 rfl H2 (e.trans e2) Q fun v H3 e3 h3 => q v H3 (e2.trans e3) ?_)
    rw [if_neg Bool.false_ne_true]
    exact h3
/-- argument lists, displays -/
theorem ea_nil : EvA F tNil σ H [] := fun H1 e Q q => q [] H1 (Ext.refl e.j) .nil
theorem ea_cons {tr : TA} (h : Ev F ta σ H d) (hr : EvA F tr σ H ds) : EvA F (tCons ta tr) σ H (d :: ds) := fun H1 e Q q =>
  h H1 e _ fun v H2 e2 hv => hr H2 (e.trans e2) _ fun vs H3 e3 hvs => q _ H3 (e2.trans e3) (.cons (hv.mono e3) hvs)
theorem sz_of {n : Nat} (h : n ≤ 100000) : n ≤ sizeLine := Nat.le_trans h (by decide)
theorem sz_lt {n : Nat} (h : n < 100000) : n < sizeLine := Nat.lt_of_lt_of_le h (by decide)
theorem ev_tup {ta : TA} (h : EvA F ta σ H ds) (hl : ds.length ≤ 100000) : Ev F (tTup ta) σ H (.tup ds) := fun H1 e Q q =>
  h H1 e _ fun vs H2 e2 hv => ⟨sz_of (by rw [hv.len]; exact hl), fun p hp => q _ _ (e2.new hp) (.tup upd_same (hv.mono ((Ext.refl e2.j).new hp)))⟩
theorem ev_lst {ta : TA} (h : EvA F ta σ H ds) (hl : ds.length ≤ 100000) : Ev F (tLst ta) σ H (.lst ds) := fun H1 e Q q =>
  h H1 e _ fun vs H2 e2 hv => ⟨sz_of (by rw [hv.len]; exact hl), fun p hp => q _ _ (e2.new hp) (.lst (e2.fresh hp) upd_same (hv.mono ((Ext.refl e2.j).new hp)))⟩
/-- calls of built-ins -/
theorem ev_cb {rc : List V → Hp → VK → Prop} {ta : TA} (h : EvA F ta σ H ds) (hr : RC F rc ds H d) : Ev F (tCB rc ta) σ H d := fun H1 e Q q =>
  h H1 e _ fun vs H2 e2 hv => hr vs H2 (e.trans e2) hv Q fun v H3 e3 h3 => q v H3 (e2.trans e3) h3
def rLen (K : PySem.W.Frag) : List V → Hp → VK → Prop := fun xs H Q => ∃ p ys, xs = [.ref p] ∧ (SqL K H p ys ∨ SqT K H p ys) ∧ Q (.int ys.length) H
theorem call_len' {X : Cx} : CallR X (.builtin "len") (rLen X.K) := call_len_seq
theorem rc_lenL : RC F (rLen K) [.lst ds] H (.int (ds.length : Nat)) := fun vs H1 e hv Q q => by
  obtain ⟨v, rfl, hz⟩ := hv.one
  obtain ⟨a, xs, rfl, s, h, hs⟩ := hz.lst_inv
  exact ⟨a, xs, rfl, Or.inl (SqL.of h), q _ H1 (Ext.refl e.j) (by rw [hs.len]; exact .int _)⟩
theorem rc_lenT : RC F (rLen K) [.tup ds] H (.int (ds.length : Nat)) := fun vs H1 e hv Q q => by
  obtain ⟨v, rfl, hz⟩ := hv.one
  obtain ⟨a, xs, rfl, h, hs⟩ := hz.tup_inv
  exact ⟨a, xs, rfl, Or.inr (SqT.of h), q _ H1 (Ext.refl e.j) (by rw [hs.len]; exact .int _)⟩
def rListOf (K : PySem.W.Frag) : List V → Hp → VK → Prop := fun xs H Q => ∃ p ys, xs = [.ref p] ∧ (SqL K H p ys ∨ SqT K H p ys) ∧ ∀ l, H l = none → Q (.ref l) (upd H l (.lst ys))
theorem call_list' {X : Cx} : CallR X (.type "list") (rListOf X.K) := call_list_of
theorem rc_list : RC F (rListOf K) [.lst ds] H (.lst ds) := fun vs H1 e hv Q q => by
  obtain ⟨v, rfl, hz⟩ := hv.one
  obtain ⟨a, xs, rfl, s, h, hs⟩ := hz.lst_inv
  have r := Ext.refl e.j
  exact ⟨a, xs, rfl, Or.inl (SqL.of h), fun l hl => q _ _ (r.new hl) (.lst (e.fresh hl) upd_same (hs.mono (r.new hl)))⟩
def rTupOf (K : PySem.W.Frag) : List V → Hp → VK → Prop := fun xs H Q => ∃ p ys, xs = [.ref p] ∧ ((SqL K H p ys ∧ ∀ l, H l = none → Q (.ref l) (upd H l (.tup ys))) ∨ (SqT K H p ys ∧ Q (.ref p) H))
theorem call_tuple' {X : Cx} : CallR X (.type "tuple") (rTupOf X.K) := call_tuple_of
theorem rc_tuple : RC F (rTupOf K) [.lst ds] H (.tup ds) := fun vs H1 e hv Q q => by
  obtain ⟨v, rfl, hz⟩ := hv.one
  obtain ⟨a, xs, rfl, s, h, hs⟩ := hz.lst_inv
  have r := Ext.refl e.j
  exact ⟨a, xs, rfl, Or.inl ⟨SqL.of h, fun l hl => q _ _ (r.new hl) (.tup upd_same (hs.mono (r.new hl)))⟩⟩
def rInt1 : List V → Hp → VK → Prop := fun xs H Q => (∃ i, xs = [.int i] ∧ Q (.int i) H) ∨ ∃ k, xs = [.bl k] ∧ Q (.int (if k then 1 else 0)) H
theorem call_int' {X : Cx} : CallR X (.type "int") rInt1 := call_int1
theorem rc_intI : RC F rInt1 [.int i] H (.int i) := fun vs H1 e hv Q q => by
  obtain ⟨v, rfl, hz⟩ := hv.one
  cases hz.int_inv
  exact Or.inl ⟨i, rfl, q _ H1 (Ext.refl e.j) (.int _)⟩
theorem rc_intB : RC F rInt1 [.bl b] H (.int (if b then 1 else 0)) := fun vs H1 e hv Q q => by
  obtain ⟨v, rfl, hz⟩ := hv.one
  cases hz.bl_inv
  exact Or.inr ⟨b, rfl, q _ H1 (Ext.refl e.j) (.int _)⟩
def rMin2 : List V → Hp → VK → Prop := fun xs H Q => ∃ i j, xs = [.int i, .int j] ∧ Q (.int (if j < i then j else i)) H
def rMax2 : List V → Hp → VK → Prop := fun xs H Q => ∃ i j, xs = [.int i, .int j] ∧ Q (.int (if j > i then j else i)) H
theorem call_min' {X : Cx} (hc : X.calm = true) : CallR X (.builtin "min") rMin2 := call_min2 hc
theorem call_max' {X : Cx} (hc : X.calm = true) : CallR X (.builtin "max") rMax2 := call_max2 hc
theorem rc_min : RC F rMin2 [.int i, .int j] H (.int (if j < i then j else i)) := fun vs H1 e hv Q q => by
  obtain ⟨v, ws, rfl, hz, hw⟩ := hv.cons_inv
  obtain ⟨w, rfl, hy⟩ := hw.one
  cases hz.int_inv
  cases hy.int_inv
  exact ⟨i, j, rfl, q _ H1 (Ext.refl e.j) (.int _)⟩
theorem rc_max : RC F rMax2 [.int i, .int j] H (.int (if j > i then j else i)) := fun vs H1 e hv Q q => by
  obtain ⟨v, ws, rfl, hz, hw⟩ := hv.cons_inv
  obtain ⟨w, rfl, hy⟩ := hw.one
  cases hz.int_inv
  cases hy.int_inv
  exact ⟨i, j, rfl, q _ H1 (Ext.refl e.j) (.int _)⟩
end
end Le

namespace Le
open PySem PySem.Spec PyProof.Rows L2

/-- one answer R x, whatever the frame -/
def SpG {ι : Type} (Pre : Fr → Hp → ι → Prop) (A : ι → List D) (R : ι → D) : Sp := fun vs H Q _ => ∃ (F : Fr) (x : ι), F.J H ∧ DvA F H vs (A x) ∧ Pre F H x ∧ ∀ v H', Ext F H H' → Dv F H' v (R x) → Q v H'
/-- some answer of C x -/
def SpC {ι : Type} (Pre : Fr → Hp → ι → Prop) (A : ι → List D) (C : ι → D → Prop) : Sp := fun vs H Q _ => ∃ (F : Fr) (x : ι), F.J H ∧ DvA F H vs (A x) ∧ Pre F H x ∧ ∀ v H' d, Ext F H H' → C x d → Dv F H' v d → Q v H'
/-- a new list -/
def SpN {ι : Type} (Pre : Fr → Hp → ι → Prop) (A : ι → List D) (R : ι → List D) : Sp := fun vs H Q _ => ∃ (F : Fr) (x : ι), F.J H ∧ DvA F H vs (A x) ∧ Pre F H x ∧ ∀ p H' xs, H p = none → Ext F H H' → H' p = some (.lst xs) → DvA F H' xs (R x) → Q (.ref p) H'
def MonoP {ι : Type} (Pre : Fr → Hp → ι → Prop) : Prop := ∀ F H H' x, Ext F H H' → Pre F H x → Pre F H' x
def EvC (F : Fr) (te : TE) (σ : L2.St) (H : Hp) (C : D → Prop) : Prop := ∀ H1, Ext F H H1 → ∀ Q : VK, (∀ v H2 d, Ext F H1 H2 → C d → Dv F H2 v d → Q v H2) → te σ H1 Q
/-- a new list, of the items ds -/
def EvN (F : Fr) (te : TE) (σ : L2.St) (H : Hp) (ds : List D) : Prop := ∀ H1, Ext F H H1 → ∀ Q : VK, (∀ p H2 xs, H1 p = none → Ext F H1 H2 → H2 p = some (.lst xs) → DvA F H2 xs ds → Q (.ref p) H2) → te σ H1 Q
section
variable {ι : Type} {Pre : Fr → Hp → ι → Prop} {A : ι → List D} {R : ι → D} {C : ι → D → Prop} {F : Fr} {K : PySem.W.Frag} {σ : L2.St} {H H1 : Hp} {ta te : TE} {t : TA} {ds : List D} {d : D}
theorem EvC.mono {C : D → Prop} (e : Ext F H H1) (h : EvC F te σ H C) : EvC F te σ H1 C := fun H2 e2 Q q => h H2 (e.trans e2) Q q
theorem Ev.toC {C : D → Prop} (h : Ev F te σ H d) (c : C d) : EvC F te σ H C := fun H1 e Q q => h H1 e Q fun v H2 e2 hv => q v H2 d e2 c hv
theorem EvC.use {C : D → Prop} (h : EvC F te σ H C) (jj : F.J H) {Q : VK} (q : ∀ v H2 d, Ext F H H2 → C d → Dv F H2 v d → Q v H2) : te σ H Q := h H (Ext.refl jj) Q q
theorem EvN.toEv (h : EvN F te σ H ds) : Ev F te σ H (.lst ds) := fun H1 e Q q => h H1 e Q fun p H2 xs hp e2 hx hd => q _ H2 e2 (.lst (fun s => F.live e.j (F.sub s) hp) hx hd)
theorem EvN.use (h : EvN F te σ H ds) (jj : F.J H) {Q : VK} (q : ∀ p H2 xs, H p = none → Ext F H H2 → H2 p = some (.lst xs) → DvA F H2 xs ds → Q (.ref p) H2) : te σ H Q := h H (Ext.refl jj) Q q
theorem en_lst {ta : TA} (h : EvA F ta σ H ds) (hl : ds.length ≤ 100000) : EvN F (tLst ta) σ H ds := fun H1 e Q q =>
  h H1 e _ fun vs H2 e2 hv => ⟨sz_of (by rw [hv.len]; exact hl), fun p hp => q p _ _ (e2.back hp) (e2.new hp) upd_same (hv.mono ((Ext.refl e2.j).new hp))⟩
theorem ev_callG (x : ι) (h : EvA F t σ H ds) (e : ds = A x) (hm : MonoP Pre) (o : Pre F H x) : Ev F (tCall (SpG Pre A R) [] E0 t) σ H (R x) := fun H1 e1 Q q =>
  h H1 e1 _ fun vs H2 e2 hv => ⟨F, x, e2.j, by rw [List.append_nil, ← e]; exact hv, hm _ _ _ _ (e1.trans e2) o, fun v H3 e3 h3 => q v H3 (e2.trans e3) h3⟩
theorem ev_callD {ok : ι → Prop} (x : ι) (h : EvA F t σ H ds) (e : ds = A x) (o : ok x) : Ev F (tCall (SpG (fun _ _ x => ok x) A R) [] E0 t) σ H (R x) := ev_callG (Pre := fun _ _ x => ok x) x h e (fun _ _ _ _ _ z => z) o
theorem ev_callC (x : ι) (h : EvA F t σ H ds) (e : ds = A x) (hm : MonoP Pre) (o : Pre F H x) : EvC F (tCall (SpC Pre A C) [] E0 t) σ H (C x) := fun H1 e1 Q q =>
  h H1 e1 _ fun vs H2 e2 hv => ⟨F, x, e2.j, by rw [List.append_nil, ← e]; exact hv, hm _ _ _ _ (e1.trans e2) o, fun v H3 d e3 hc h3 => q v H3 d (e2.trans e3) hc h3⟩
theorem en_call {R : ι → List D} (x : ι) (h : EvA F t σ H ds) (e : ds = A x) (hm : MonoP Pre) (o : Pre F H x) : EvN F (tCall (SpN Pre A R) [] E0 t) σ H (R x) := fun H1 e1 Q q =>
  h H1 e1 _ fun vs H2 e2 hv => ⟨F, x, e2.j, by rw [List.append_nil, ← e]; exact hv, hm _ _ _ _ (e1.trans e2) o, fun p H3 xs hp e3 h3 hx => q p H3 xs (e2.back hp) (e2.trans e3) h3 hx⟩
/-- methods -/
theorem ev_methG {a c dx : Addr} {m : Str} {fs : List (Str × V)} (x : ι) (ha : Ev F ta σ H (.adr a)) (hi : H a = some (.ins c dx fs)) (hs : ¬ F.S a) (hl : fs.lookup m = none) (h : EvA F t σ H ds) (e : .adr a :: ds = A x) (hm : MonoP Pre) (o : Pre F H x) :
    Ev F (tMeth c m (SpG Pre A R) [] E0 ta t) σ H (R x) := fun H1 e1 Q q =>
  ha H1 e1 _ fun v H2 e2 hv => ⟨a, dx, fs, hv.adr_inv, (e1.trans e2).k _ _ hs hi, hl, h H2 (e1.trans e2) _ fun vs H3 e3 hvs =>
    ⟨F, x, e3.j, by rw [List.append_nil, ← e]; exact .cons (hv.mono e3) hvs, hm _ _ _ _ ((e1.trans e2).trans e3) o, fun v H4 e4 h4 => q v H4 ((e2.trans e3).trans e4) h4⟩⟩
theorem ev_methC {a c dx : Addr} {m : Str} {fs : List (Str × V)} (x : ι) (ha : Ev F ta σ H (.adr a)) (hi : H a = some (.ins c dx fs)) (hs : ¬ F.S a) (hl : fs.lookup m = none) (h : EvA F t σ H ds) (e : .adr a :: ds = A x) (hm : MonoP Pre) (o : Pre F H x) :
    EvC F (tMeth c m (SpC Pre A C) [] E0 ta t) σ H (C x) := fun H1 e1 Q q =>
  ha H1 e1 _ fun v H2 e2 hv => ⟨a, dx, fs, hv.adr_inv, (e1.trans e2).k _ _ hs hi, hl, h H2 (e1.trans e2) _ fun vs H3 e3 hvs =>
    ⟨F, x, e3.j, by rw [List.append_nil, ← e]; exact .cons (hv.mono e3) hvs, hm _ _ _ _ ((e1.trans e2).trans e3) o, fun v H4 d e4 hc h4 => q v H4 d ((e2.trans e3).trans e4) hc h4⟩⟩
/-- a field -/
theorem ev_fld {a c dx : Addr} {f : Str} {fs : List (Str × V)} {v : V} (ha : Ev F ta σ H (.adr a)) (hi : H a = some (.ins c dx fs)) (hs : ¬ F.S a) (hc : Cls K c) (hn : NoAttr K c f) (hl : fs.lookup f = some v) (hd : Dv F H v d) :
    Ev F (tFld K ta f) σ H d := fun H1 e1 Q q =>
  ha H1 e1 _ fun w H2 e2 hv => ⟨a, c, dx, fs, v, hv.adr_inv, (e1.trans e2).k _ _ hs hi, hc, hn, hl, q v H2 e2 (hd.mono (e1.trans e2))⟩
end

theorem ev_ifT {F : Fr} {σ : L2.St} {H : Hp} {t : TT} {ta tb : TE} {b : Bool} {d : D} (h : EvT F t σ H b) (hb : b = true) (h1 : Ev F ta σ H d) : Ev F (tIf t ta tb) σ H d := fun H1 e Q q => h H1 e _ fun H2 e2 => by
  subst hb
  exact iteT (h1 H2 (e.trans e2) Q fun v H3 e3 h3 => q v H3 (e2.trans e3) h3)
theorem ev_ifF {F : Fr} {σ : L2.St} {H : Hp} {t : TT} {ta tb : TE} {b : Bool} {d : D} (h : EvT F t σ H b) (hb : b = false) (h1 : Ev F tb σ H d) : Ev F (tIf t ta tb) σ H d := fun H1 e Q q => h H1 e _ fun H2 e2 => by
  subst hb
  exact iteF (h1 H2 (e.trans e2) Q fun v H3 e3 h3 => q v H3 (e2.trans e3) h3)
section
variable {F : Fr} {K : PySem.W.Frag} {σ : L2.St} {H H1 : Hp} {ta te tl : TE} {t : TT} {ds : List D} {d d1 d2 d3 d4 d5 : D} {D' : Ends} {tb tc : TS} {b : Bool} {g : TG} {C : D → Prop} {i j k l m : Nat}
theorem s_seq (h : tb { D' with nx := tc D' } σ H) : tSeq tb tc D' σ H := h
theorem s_ret (jj : F.J H) (h : Ev F te σ H d) (k : ∀ v H2, Ext F H H2 → Dv F H2 v d → D'.rt v H2) : tRet te D' σ H := h.use jj k
theorem s_retC (jj : F.J H) (h : EvC F te σ H C) (k : ∀ v H2 d, Ext F H H2 → C d → Dv F H2 v d → D'.rt v H2) : tRet te D' σ H := h.use jj k
theorem s_retN (jj : F.J H) (h : EvN F te σ H ds) (k : ∀ p H2 xs, H p = none → Ext F H H2 → H2 p = some (.lst xs) → DvA F H2 xs ds → D'.rt (.ref p) H2) : tRet te D' σ H := h.use jj k
theorem s_if (jj : F.J H) (h : EvT F t σ H b) (h1 : b = true → ∀ H2, Ext F H H2 → tb D' σ H2) (h2 : b = false → ∀ H2, Ext F H H2 → tc D' σ H2) : tIfS t tb tc D' σ H := h.use jj fun H2 e2 => by
  cases b with
  | true => exact iteT (h1 rfl H2 e2)
  | false => exact iteF (h2 rfl H2 e2)
theorem s_ifF (jj : F.J H) (h : EvT F t σ H b) (hb : b = false) (h2 : ∀ H2, Ext F H H2 → tc D' σ H2) : tIfS t tb tc D' σ H := s_if jj h (fun z => by rw [hb] at z; cases z) fun _ => h2
theorem s_ifT (jj : F.J H) (h : EvT F t σ H b) (hb : b = true) (h2 : ∀ H2, Ext F H H2 → tb D' σ H2) : tIfS t tb tc D' σ H := s_if jj h (fun _ => h2) fun z => by rw [hb] at z; cases z
theorem s_next (h : D'.nx σ H) : tNext D' σ H := h
theorem s_set (jj : F.J H) (h : Ev F te σ H d) (k : ∀ v H2, Ext F H H2 → Dv F H2 v d → D'.nx (σ.set i (some v)) H2) : tAsg te (gName i) D' σ H := h.use jj k
theorem s_setC (jj : F.J H) (h : EvC F te σ H C) (k : ∀ v H2 d, Ext F H H2 → C d → Dv F H2 v d → D'.nx (σ.set i (some v)) H2) : tAsg te (gName i) D' σ H := h.use jj k
theorem s_setN (jj : F.J H) (h : EvN F te σ H ds) (k : ∀ p H2 xs, H p = none → Ext F H H2 → H2 p = some (.lst xs) → DvA F H2 xs ds → D'.nx (σ.set i (some (.ref p))) H2) : tAsg te (gName i) D' σ H := h.use jj k
theorem s_drop (jj : F.J H) (h : Ev F te σ H d) (k : ∀ H2, Ext F H H2 → D'.nx σ H2) : tDrop te D' σ H := h.use jj fun _ H2 e2 _ => k H2 e2
/-- an empty list | dict of one's own -/
theorem s_new (jj : F.J H) (k : ∀ p, H p = none → (F.pin p (.lst [])).J (upd H p (.lst [])) → D'.nx (σ.set i (some (.ref p))) (upd H p (.lst []))) : tAsg (tLst tNil) (gName i) D' σ H :=
  ⟨Nat.zero_le _, fun p hp => k p hp (pin_new jj hp rfl)⟩
theorem s_newD (jj : F.J H) (k : ∀ p, H p = none → (F.pin p (.dK [])).J (upd H p (.dK [])) → D'.nx (σ.set i (some (.ref p))) (upd H p (.dK []))) : tAsg tDNewK (gName i) D' σ H :=
  fun p hp => k p hp (pin_new jj hp rfl)
/-- targets -/
theorem g_unp2 {v : V} {Q : L2.St → Hp → Prop} (hv : Dv F H v (.tup [d1, d2])) (k : ∀ v1 v2, Dv F H v1 d1 → Dv F H v2 d2 → Q ((σ.set i (some v1)).set j (some v2)) H) :
    gTup K 2 (gCons (gName i) (gCons (gName j) gNil)) v σ H Q := by
  obtain ⟨a, xs, rfl, h, hs⟩ := hv.tup_inv
  obtain ⟨v1, r, rfl, h1, hs⟩ := hs.cons_inv
  obtain ⟨v2, r, rfl, h2, hs⟩ := hs.cons_inv
  cases hs.nil_inv
  exact ⟨a, _, rfl, SqT.of h, rfl, v1, _, rfl, v2, _, rfl, rfl, k v1 v2 h1 h2⟩
theorem g_unp3 {v : V} {Q : L2.St → Hp → Prop} (hv : Dv F H v (.tup [d1, d2, d3])) (k : ∀ v1 v2 v3, Dv F H v1 d1 → Dv F H v2 d2 → Dv F H v3 d3 → Q (((σ.set i (some v1)).set j (some v2)).set l (some v3)) H) :
    gTup K 3 (gCons (gName i) (gCons (gName j) (gCons (gName l) gNil))) v σ H Q := by
  obtain ⟨a, xs, rfl, h, hs⟩ := hv.tup_inv
  obtain ⟨v1, r, rfl, h1, hs⟩ := hs.cons_inv
  obtain ⟨v2, r, rfl, h2, hs⟩ := hs.cons_inv
  obtain ⟨v3, r, rfl, h3, hs⟩ := hs.cons_inv
  cases hs.nil_inv
  exact ⟨a, _, rfl, SqT.of h, rfl, v1, _, rfl, v2, _, rfl, v3, _, rfl, rfl, k v1 v2 v3 h1 h2 h3⟩
theorem g_unp4 {v : V} {Q : L2.St → Hp → Prop} (hv : Dv F H v (.tup [d1, d2, d3, d4])) (k : ∀ v1 v2 v3 v4, Dv F H v1 d1 → Dv F H v2 d2 → Dv F H v3 d3 → Dv F H v4 d4 → Q ((((σ.set i (some v1)).set j (some v2)).set l (some v3)).set m (some v4)) H) :
    gTup K 4 (gCons (gName i) (gCons (gName j) (gCons (gName l) (gCons (gName m) gNil)))) v σ H Q := by
  obtain ⟨a, xs, rfl, h, hs⟩ := hv.tup_inv
  obtain ⟨v1, r, rfl, h1, hs⟩ := hs.cons_inv
  obtain ⟨v2, r, rfl, h2, hs⟩ := hs.cons_inv
  obtain ⟨v3, r, rfl, h3, hs⟩ := hs.cons_inv
  obtain ⟨v4, r, rfl, h4, hs⟩ := hs.cons_inv
  cases hs.nil_inv
  exact ⟨a, _, rfl, SqT.of h, rfl, v1, _, rfl, v2, _, rfl, v3, _, rfl, v4, _, rfl, rfl, k v1 v2 v3 v4 h1 h2 h3 h4⟩
theorem g_unp5 {n : Nat} {v : V} {Q : L2.St → Hp → Prop} (hv : Dv F H v (.tup [d1, d2, d3, d4, d5])) (k : ∀ v1 v2 v3 v4 v5, Dv F H v1 d1 → Dv F H v2 d2 → Dv F H v3 d3 → Dv F H v4 d4 → Dv F H v5 d5 → Q (((((σ.set i (some v1)).set j (some v2)).set l (some v3)).set m (some v4)).set n (some v5)) H) :
    gTup K 5 (gCons (gName i) (gCons (gName j) (gCons (gName l) (gCons (gName m) (gCons (gName n) gNil))))) v σ H Q := by
  obtain ⟨a, xs, rfl, h, hs⟩ := hv.tup_inv
  obtain ⟨v1, r, rfl, h1, hs⟩ := hs.cons_inv
  obtain ⟨v2, r, rfl, h2, hs⟩ := hs.cons_inv
  obtain ⟨v3, r, rfl, h3, hs⟩ := hs.cons_inv
  obtain ⟨v4, r, rfl, h4, hs⟩ := hs.cons_inv
  obtain ⟨v5, r, rfl, h5, hs⟩ := hs.cons_inv
  cases hs.nil_inv
  exact ⟨a, _, rfl, SqT.of h, rfl, v1, _, rfl, v2, _, rfl, v3, _, rfl, v4, _, rfl, v5, _, rfl, rfl, k v1 v2 v3 v4 v5 h1 h2 h3 h4 h5⟩
theorem s_asg (jj : F.J H) (h : Ev F te σ H d) (k : ∀ v H2, Ext F H H2 → Dv F H2 v d → g v σ H2 D'.nx) : tAsg te g D' σ H := h.use jj k
theorem s_asgC (jj : F.J H) (h : EvC F te σ H C) (k : ∀ v H2 d, Ext F H H2 → C d → Dv F H2 v d → g v σ H2 D'.nx) : tAsg te g D' σ H := h.use jj k
/-- a list of one's own gets an item -/
theorem s_app {p : Addr} {xs : List V} (jj : (F.pin p (.lst xs)).J H) (hx : σ[i]? = some (some (.ref p))) (h : Ev (F.pin p (.lst xs)) te σ H d) (hz : xs.length < 100000)
    (k : ∀ v H2, Ext (F.pin p (.lst xs)) H H2 → Dv (F.pin p (.lst xs)) H2 v d → D'.nx σ (upd H2 p (.lst (xs ++ [v])))) : tDrop (tBM K "list" rAppend (tVar i) (tCons te tNil)) D' σ H :=
  ⟨_, hx, Or.inl ⟨rfl, _, SqL.of jj.2.2.1⟩, h.use jj fun v H2 e2 hv => ⟨p, xs, v, rfl, rfl, e2.at_, sz_lt hz, k v H2 e2 hv⟩⟩
theorem s_appC {p : Addr} {xs : List V} (jj : (F.pin p (.lst xs)).J H) (hx : σ[i]? = some (some (.ref p))) (h : EvC (F.pin p (.lst xs)) te σ H C) (hz : xs.length < 100000)
    (k : ∀ v H2 d, Ext (F.pin p (.lst xs)) H H2 → C d → Dv (F.pin p (.lst xs)) H2 v d → D'.nx σ (upd H2 p (.lst (xs ++ [v])))) : tDrop (tBM K "list" rAppend (tVar i) (tCons te tNil)) D' σ H :=
  ⟨_, hx, Or.inl ⟨rfl, _, SqL.of jj.2.2.1⟩, h.use jj fun v H2 d e2 hc hv => ⟨p, xs, v, rfl, rfl, e2.at_, sz_lt hz, k v H2 d e2 hc hv⟩⟩

end
/-- of two frames that change the same, G says more -/
structure Le1 (G F : Fr) : Prop where
  s : ∀ a, G.S a ↔ F.S a
  j : ∀ H, G.J H → F.J H
theorem Le1.ext {G F : Fr} {H H' : Hp} (l : Le1 G F) (e : Ext G H H') : Ext F H H' := ⟨l.j _ e.j, fun a o s h => e.k a o (fun z => s ((l.s a).mp z)) h, e.t⟩
mutual
theorem Le1.dv {G F : Fr} {H : Hp} (l : Le1 G F) : ∀ {v : V} {d : D}, Dv G H v d → Dv F H v d
  | _, _, .non => .non
  | _, _, .bl b => .bl b
  | _, _, .int i => .int i
  | _, _, .str x => .str x
  | _, _, .adr a => .adr a
  | _, _, .tup h r => .tup h (l.dvA r)
  | _, _, .lst s h r => .lst (fun z => s ((l.s _).mpr z)) h (l.dvA r)
  | _, _, .dic s h => .dic (fun z => s ((l.s _).mpr z)) h
theorem Le1.dvA {G F : Fr} {H : Hp} (l : Le1 G F) : ∀ {vs : List V} {ds : List D}, DvA G H vs ds → DvA F H vs ds
  | _, _, .nil => .nil
  | _, _, .cons h r => .cons (l.dv h) (l.dvA r)
end
theorem Le1.pin {F : Fr} {p : Addr} {o : HO} : Le1 (F.pin p o) (F.add p) := ⟨fun _ => Iff.rfl, fun _ j => ⟨j.1, j.2.1, o, j.2.2⟩⟩
section
variable {F : Fr} {K : PySem.W.Frag} {σ : L2.St} {H H1 : Hp} {ta te tl : TE} {t : TT} {ds : List D} {d d1 d2 d3 d4 d5 : D} {D' : Ends} {tb tc : TS} {b : Bool} {g : TG} {C : D → Prop} {i j k l m : Nat}

theorem s_forT (jj : F.J H) (h : Ev F tl σ H (.tup ds)) (Pv : Nat → L2.St → Hp → Prop) (h0 : ∀ H2, Ext F H H2 → Pv 0 σ H2)
    (hs : ∀ i d v σ' H', ds[i]? = some d → Ext F H H' → Pv i σ' H' → Dv F H' v d → g v σ' H' fun σ2 H2 => tb { D' with nx := fun σ3 H3 => Ext F H' H3 ∧ Pv (i + 1) σ3 H3, ct := fun σ3 H3 => Ext F H' H3 ∧ Pv (i + 1) σ3 H3, bk := D'.nx } σ2 H2)
    (hd : ∀ σ' H', Ext F H H' → Pv ds.length σ' H' → D'.nx σ' H') : tFor (iTup K tl) g tb D' σ H := h.use jj fun v H2 e2 hv => by
  obtain ⟨a, xs, rfl, ha, hx⟩ := hv.tup_inv
  refine ⟨a, rfl, ⟨xs, SqT.of ha⟩, fun i m σ' H' => m = xs.length - i ∧ i ≤ xs.length ∧ Ext F H2 H' ∧ Pv i σ' H', ⟨xs.length, rfl, Nat.zero_le _, Ext.refl e2.j, h0 H2 e2⟩, ?_⟩
  rintro i m σ' H' ⟨rfl, hi, e', p⟩
  have q : SqT K H' a xs := SqT.of (e'.t _ _ ha)
  by_cases hlt : i < xs.length
  · refine .inr ⟨⟨xs, xs[i], q, by simp [hlt]⟩, fun σ3 H3 => Ext F H' H3 ∧ Pv (i + 1) σ3 H3, fun σ3 H3 p' => ⟨xs.length - (i + 1), by omega, rfl, hlt, e'.trans p'.1, p'.2⟩, fun x H3 y => ?_⟩
    obtain ⟨rfl, y⟩ := y
    obtain ⟨d, hd1, hd2⟩ := hx.getV (y xs q)
    exact hs i d x σ' _ hd1 (e2.trans e') p (hd2.mono e')
  · have ei : i = xs.length := by omega
    subst ei
    refine .inl ⟨⟨xs, q, Nat.le_refl _⟩, hd σ' H' (e2.trans e') ?_⟩
    rw [← hx.len]
    exact p
theorem s_forTp {G : Fr} (le : Le1 G F) (jj : G.J H) (h : Ev G tl σ H (.tup ds)) (Pv : Nat → L2.St → Hp → Prop) (h0 : ∀ H2, Ext G H H2 → Pv 0 σ H2)
    (hs : ∀ i d v σ' H', ds[i]? = some d → Ext F H H' → Pv i σ' H' → Dv F H' v d → g v σ' H' fun σ2 H2 => tb { D' with nx := fun σ3 H3 => Ext F H' H3 ∧ Pv (i + 1) σ3 H3, ct := fun σ3 H3 => Ext F H' H3 ∧ Pv (i + 1) σ3 H3, bk := D'.nx } σ2 H2)
    (hd : ∀ σ' H', Ext F H H' → Pv ds.length σ' H' → D'.nx σ' H') : tFor (iTup K tl) g tb D' σ H := h.use jj fun v H2 e0 hv0 => by
  have e2 := le.ext e0
  have hv := le.dv hv0
  obtain ⟨a, xs, rfl, ha, hx⟩ := hv.tup_inv
  refine ⟨a, rfl, ⟨xs, SqT.of ha⟩, fun i m σ' H' => m = xs.length - i ∧ i ≤ xs.length ∧ Ext F H2 H' ∧ Pv i σ' H', ⟨xs.length, rfl, Nat.zero_le _, Ext.refl e2.j, h0 H2 e0⟩, ?_⟩
  rintro i m σ' H' ⟨rfl, hi, e', p⟩
  have q : SqT K H' a xs := SqT.of (e'.t _ _ ha)
  by_cases hlt : i < xs.length
  · refine .inr ⟨⟨xs, xs[i], q, by simp [hlt]⟩, fun σ3 H3 => Ext F H' H3 ∧ Pv (i + 1) σ3 H3, fun σ3 H3 p' => ⟨xs.length - (i + 1), by omega, rfl, hlt, e'.trans p'.1, p'.2⟩, fun x H3 y => ?_⟩
    obtain ⟨rfl, y⟩ := y
    obtain ⟨d, hd1, hd2⟩ := hx.getV (y xs q)
    exact hs i d x σ' _ hd1 (e2.trans e') p (hd2.mono e')
  · have ei : i = xs.length := by omega
    subst ei
    refine .inl ⟨⟨xs, q, Nat.le_refl _⟩, hd σ' H' (e2.trans e') ?_⟩
    rw [← hx.len]
    exact p
theorem s_forL (jj : F.J H) (h : Ev F tl σ H (.lst ds)) (Pv : Nat → L2.St → Hp → Prop) (h0 : ∀ H2, Ext F H H2 → Pv 0 σ H2)
    (hs : ∀ i d v σ' H', ds[i]? = some d → Ext F H H' → Pv i σ' H' → Dv F H' v d → g v σ' H' fun σ2 H2 => tb { D' with nx := fun σ3 H3 => Ext F H' H3 ∧ Pv (i + 1) σ3 H3, ct := fun σ3 H3 => Ext F H' H3 ∧ Pv (i + 1) σ3 H3, bk := D'.nx } σ2 H2)
    (hd : ∀ σ' H', Ext F H H' → Pv ds.length σ' H' → D'.nx σ' H') : tFor (iList K tl) g tb D' σ H := h.use jj fun v H2 e2 hv => by
  obtain ⟨a, xs, rfl, s, ha, hx⟩ := hv.lst_inv
  refine ⟨a, rfl, ⟨xs, SqL.of ha⟩, fun i m σ' H' => m = xs.length - i ∧ i ≤ xs.length ∧ Ext F H2 H' ∧ Pv i σ' H', ⟨xs.length, rfl, Nat.zero_le _, Ext.refl e2.j, h0 H2 e2⟩, ?_⟩
  rintro i m σ' H' ⟨rfl, hi, e', p⟩
  have q : SqL K H' a xs := SqL.of (e'.k _ _ s ha)
  by_cases hlt : i < xs.length
  · refine .inr ⟨⟨xs, xs[i], q, by simp [hlt]⟩, fun σ3 H3 => Ext F H' H3 ∧ Pv (i + 1) σ3 H3, fun σ3 H3 p' => ⟨xs.length - (i + 1), by omega, rfl, hlt, e'.trans p'.1, p'.2⟩, fun x H3 y => ?_⟩
    obtain ⟨rfl, y⟩ := y
    obtain ⟨d, hd1, hd2⟩ := hx.getV (y xs q)
    exact hs i d x σ' _ hd1 (e2.trans e') p (hd2.mono e')
  · have ei : i = xs.length := by omega
    subst ei
    refine .inl ⟨⟨xs, q, Nat.le_refl _⟩, hd σ' H' (e2.trans e') ?_⟩
    rw [← hx.len]
    exact p
theorem s_forLp {G : Fr} (le : Le1 G F) (jj : G.J H) (h : Ev G tl σ H (.lst ds)) (Pv : Nat → L2.St → Hp → Prop) (h0 : ∀ H2, Ext G H H2 → Pv 0 σ H2)
    (hs : ∀ i d v σ' H', ds[i]? = some d → Ext F H H' → Pv i σ' H' → Dv F H' v d → g v σ' H' fun σ2 H2 => tb { D' with nx := fun σ3 H3 => Ext F H' H3 ∧ Pv (i + 1) σ3 H3, ct := fun σ3 H3 => Ext F H' H3 ∧ Pv (i + 1) σ3 H3, bk := D'.nx } σ2 H2)
    (hd : ∀ σ' H', Ext F H H' → Pv ds.length σ' H' → D'.nx σ' H') : tFor (iList K tl) g tb D' σ H := h.use jj fun v H2 e0 hv0 => by
  have e2 := le.ext e0
  have hv := le.dv hv0
  obtain ⟨a, xs, rfl, s, ha, hx⟩ := hv.lst_inv
  refine ⟨a, rfl, ⟨xs, SqL.of ha⟩, fun i m σ' H' => m = xs.length - i ∧ i ≤ xs.length ∧ Ext F H2 H' ∧ Pv i σ' H', ⟨xs.length, rfl, Nat.zero_le _, Ext.refl e2.j, h0 H2 e0⟩, ?_⟩
  rintro i m σ' H' ⟨rfl, hi, e', p⟩
  have q : SqL K H' a xs := SqL.of (e'.k _ _ s ha)
  by_cases hlt : i < xs.length
  · refine .inr ⟨⟨xs, xs[i], q, by simp [hlt]⟩, fun σ3 H3 => Ext F H' H3 ∧ Pv (i + 1) σ3 H3, fun σ3 H3 p' => ⟨xs.length - (i + 1), by omega, rfl, hlt, e'.trans p'.1, p'.2⟩, fun x H3 y => ?_⟩
    obtain ⟨rfl, y⟩ := y
    obtain ⟨d, hd1, hd2⟩ := hx.getV (y xs q)
    exact hs i d x σ' _ hd1 (e2.trans e') p (hd2.mono e')
  · have ei : i = xs.length := by omega
    subst ei
    refine .inl ⟨⟨xs, q, Nat.le_refl _⟩, hd σ' H' (e2.trans e') ?_⟩
    rw [← hx.len]
    exact p
/-- over range(n), n some int of C -/
theorem s_forR {n : Int} (jj : F.J H) (h : Ev F te σ H (.int n)) (hn : n ≤ 1000000) (hn0 : -1000000 ≤ n) (Pv : Nat → L2.St → Hp → Prop) (h0 : ∀ H2, Ext F H H2 → Pv 0 σ H2)
    (hs : ∀ (i : Nat) σ' H', i < n.toNat → Ext F H H' → Pv i σ' H' → g (.int (i : Int)) σ' H' fun σ2 H2 => tb { D' with nx := fun σ3 H3 => Ext F H' H3 ∧ Pv (i + 1) σ3 H3, ct := fun σ3 H3 => Ext F H' H3 ∧ Pv (i + 1) σ3 H3, bk := D'.nx } σ2 H2)
    (hd : ∀ σ' H', Ext F H H' → Pv n.toNat σ' H' → D'.nx σ' H') : tFor (iRng1 (tCons te tNil)) g tb D' σ H := h.use jj fun v H2 e2 hv => by
  cases hv.int_inv
  refine ⟨n, rfl, by omega, by omega, fun i m σ' H' => m = n.toNat - i ∧ i ≤ n.toNat ∧ Ext F H2 H' ∧ Pv i σ' H', ⟨n.toNat, rfl, Nat.zero_le _, Ext.refl e2.j, h0 H2 e2⟩, ?_⟩
  rintro i m σ' H' ⟨rfl, hi, e', p⟩
  by_cases hlt : i < n.toNat
  · refine .inr ⟨hlt, fun σ3 H3 => Ext F H' H3 ∧ Pv (i + 1) σ3 H3, fun σ3 H3 p' => ⟨n.toNat - (i + 1), by omega, rfl, hlt, e'.trans p'.1, p'.2⟩, fun x H3 y => ?_⟩
    obtain ⟨rfl, rfl⟩ := y
    rw [Int.zero_add]
    exact hs i σ' _ hlt (e2.trans e') p
  · have ei : i = n.toNat := by omega
    subst ei
    exact .inl ⟨Nat.le_refl _, hd σ' H' (e2.trans e') p⟩
theorem s_forRp {G : Fr} (le : Le1 G F) {n : Int} (jj : G.J H) (h : Ev G te σ H (.int n)) (hn : n ≤ 1000000) (hn0 : -1000000 ≤ n) (Pv : Nat → L2.St → Hp → Prop) (h0 : ∀ H2, Ext G H H2 → Pv 0 σ H2)
    (hs : ∀ (i : Nat) σ' H', i < n.toNat → Ext F H H' → Pv i σ' H' → g (.int (i : Int)) σ' H' fun σ2 H2 => tb { D' with nx := fun σ3 H3 => Ext F H' H3 ∧ Pv (i + 1) σ3 H3, ct := fun σ3 H3 => Ext F H' H3 ∧ Pv (i + 1) σ3 H3, bk := D'.nx } σ2 H2)
    (hd : ∀ σ' H', Ext F H H' → Pv n.toNat σ' H' → D'.nx σ' H') : tFor (iRng1 (tCons te tNil)) g tb D' σ H := h.use jj fun v H2 e0 hv0 => by
  have e2 := le.ext e0
  have hv := le.dv hv0
  cases hv.int_inv
  refine ⟨n, rfl, by omega, by omega, fun i m σ' H' => m = n.toNat - i ∧ i ≤ n.toNat ∧ Ext F H2 H' ∧ Pv i σ' H', ⟨n.toNat, rfl, Nat.zero_le _, Ext.refl e2.j, h0 H2 e0⟩, ?_⟩
  rintro i m σ' H' ⟨rfl, hi, e', p⟩
  by_cases hlt : i < n.toNat
  · refine .inr ⟨hlt, fun σ3 H3 => Ext F H' H3 ∧ Pv (i + 1) σ3 H3, fun σ3 H3 p' => ⟨n.toNat - (i + 1), by omega, rfl, hlt, e'.trans p'.1, p'.2⟩, fun x H3 y => ?_⟩
    obtain ⟨rfl, rfl⟩ := y
    rw [Int.zero_add]
    exact hs i σ' _ hlt (e2.trans e') p
  · have ei : i = n.toNat := by omega
    subst ei
    exact .inl ⟨Nat.le_refl _, hd σ' H' (e2.trans e') p⟩
theorem s_forRC (jj : F.J H) (h : EvC F te σ H C) (hn : ∀ d, C d → ∃ n : Int, d = .int n ∧ -1000000 ≤ n ∧ n ≤ 1000000) (Pv : Int → Nat → L2.St → Hp → Prop) (h0 : ∀ n H2, C (.int n) → Ext F H H2 → Pv n 0 σ H2)
    (hs : ∀ n (i : Nat) σ' H', C (.int n) → i < n.toNat → Ext F H H' → Pv n i σ' H' → g (.int (i : Int)) σ' H' fun σ2 H2 => tb { D' with nx := fun σ3 H3 => Ext F H' H3 ∧ Pv n (i + 1) σ3 H3, ct := fun σ3 H3 => Ext F H' H3 ∧ Pv n (i + 1) σ3 H3, bk := D'.nx } σ2 H2)
    (hd : ∀ n σ' H', C (.int n) → Ext F H H' → Pv n n.toNat σ' H' → D'.nx σ' H') : tFor (iRng1 (tCons te tNil)) g tb D' σ H := h.use jj fun v H2 d e2 hc hv => by
  obtain ⟨n, rfl, hn0, hn⟩ := hn d hc
  cases hv.int_inv
  refine ⟨n, rfl, by omega, by omega, fun i m σ' H' => m = n.toNat - i ∧ i ≤ n.toNat ∧ Ext F H2 H' ∧ Pv n i σ' H', ⟨n.toNat, rfl, Nat.zero_le _, Ext.refl e2.j, h0 n H2 hc e2⟩, ?_⟩
  rintro i m σ' H' ⟨rfl, hi, e', p⟩
  by_cases hlt : i < n.toNat
  · refine .inr ⟨hlt, fun σ3 H3 => Ext F H' H3 ∧ Pv n (i + 1) σ3 H3, fun σ3 H3 p' => ⟨n.toNat - (i + 1), by omega, rfl, hlt, e'.trans p'.1, p'.2⟩, fun x H3 y => ?_⟩
    obtain ⟨rfl, rfl⟩ := y
    rw [Int.zero_add]
    exact hs n i σ' _ hc hlt (e2.trans e') p
  · have ei : i = n.toNat := by omega
    subst ei
    exact .inl ⟨Nat.le_refl _, hd n σ' H' hc (e2.trans e') p⟩
theorem s_forRCp {G : Fr} (le : Le1 G F) (jj : G.J H) (h : EvC G te σ H C) (hn : ∀ d, C d → ∃ n : Int, d = .int n ∧ -1000000 ≤ n ∧ n ≤ 1000000) (Pv : Int → Nat → L2.St → Hp → Prop) (h0 : ∀ n H2, C (.int n) → Ext G H H2 → Pv n 0 σ H2)
    (hs : ∀ n (i : Nat) σ' H', C (.int n) → i < n.toNat → Ext F H H' → Pv n i σ' H' → g (.int (i : Int)) σ' H' fun σ2 H2 => tb { D' with nx := fun σ3 H3 => Ext F H' H3 ∧ Pv n (i + 1) σ3 H3, ct := fun σ3 H3 => Ext F H' H3 ∧ Pv n (i + 1) σ3 H3, bk := D'.nx } σ2 H2)
    (hd : ∀ n σ' H', C (.int n) → Ext F H H' → Pv n n.toNat σ' H' → D'.nx σ' H') : tFor (iRng1 (tCons te tNil)) g tb D' σ H := h.use jj fun v H2 d e0 hc hv0 => by
  have e2 := le.ext e0
  have hv := le.dv hv0
  obtain ⟨n, rfl, hn0, hn⟩ := hn d hc
  cases hv.int_inv
  refine ⟨n, rfl, by omega, by omega, fun i m σ' H' => m = n.toNat - i ∧ i ≤ n.toNat ∧ Ext F H2 H' ∧ Pv n i σ' H', ⟨n.toNat, rfl, Nat.zero_le _, Ext.refl e2.j, h0 n H2 hc e0⟩, ?_⟩
  rintro i m σ' H' ⟨rfl, hi, e', p⟩
  by_cases hlt : i < n.toNat
  · refine .inr ⟨hlt, fun σ3 H3 => Ext F H' H3 ∧ Pv n (i + 1) σ3 H3, fun σ3 H3 p' => ⟨n.toNat - (i + 1), by omega, rfl, hlt, e'.trans p'.1, p'.2⟩, fun x H3 y => ?_⟩
    obtain ⟨rfl, rfl⟩ := y
    rw [Int.zero_add]
    exact hs n i σ' _ hc hlt (e2.trans e') p
  · have ei : i = n.toNat := by omega
    subst ei
    exact .inl ⟨Nat.le_refl _, hd n σ' H' hc (e2.trans e') p⟩
/-- for i, x in enumerate(list) -/
theorem s_forE (jj : F.J H) (h : Ev F tl σ H (.lst ds)) (Pv : Nat → L2.St → Hp → Prop) (h0 : ∀ H2, Ext F H H2 → Pv 0 σ H2)
    (hs : ∀ (n : Nat) d v σ' H', ds[n]? = some d → Ext F H H' → Pv n σ' H' → ∀ H2, Ext F H' H2 → Dv F H2 v d → tb { D' with nx := fun σ3 H3 => Ext F H' H3 ∧ Pv (n + 1) σ3 H3, ct := fun σ3 H3 => Ext F H' H3 ∧ Pv (n + 1) σ3 H3, bk := D'.nx } ((σ'.set i (some (.int (n : Nat)))).set j (some v)) H2)
    (hd : ∀ σ' H', Ext F H H' → Pv ds.length σ' H' → D'.nx σ' H') : tFor (iEnum K (tCons tl tNil)) (gTup K 2 (gCons (gName i) (gCons (gName j) gNil))) tb D' σ H := h.use jj fun v H2 e2 hv => by
  obtain ⟨a, xs, rfl, s, ha, hx⟩ := hv.lst_inv
  refine ⟨a, xs, rfl, SqL.of ha, fun i m σ' H' => m = xs.length - i ∧ i ≤ xs.length ∧ Ext F H2 H' ∧ Pv i σ' H', ⟨xs.length, rfl, Nat.zero_le _, Ext.refl e2.j, h0 H2 e2⟩, ?_⟩
  rintro n m σ' H' ⟨rfl, hi, e', p⟩
  have q : SqL K H' a xs := SqL.of (e'.k _ _ s ha)
  by_cases hlt : n < xs.length
  · refine .inr ⟨⟨xs, xs[n], q, by simp [hlt]⟩, fun σ3 H3 => Ext F H' H3 ∧ Pv (n + 1) σ3 H3, fun σ3 H3 p' => ⟨xs.length - (n + 1), by omega, rfl, hlt, e'.trans p'.1, p'.2⟩, fun x H3 y => ?_⟩
    obtain ⟨T, w, rfl, hT, rfl, y⟩ := y
    obtain ⟨d, hd1, hd2⟩ := hx.getV (y xs q)
    have eT : Ext F H' (upd H' T (.tup [.int (n : Nat), w])) := (Ext.refl e'.j).new hT
    refine ⟨T, _, rfl, SqT.of upd_same, rfl, _, _, rfl, _, _, rfl, rfl, ?_⟩
    exact hs n d w σ' H' hd1 (e2.trans e') p _ eT ((hd2.mono e').mono eT)
  · have ei : n = xs.length := by omega
    subst ei
    refine .inl ⟨⟨xs, q, Nat.le_refl _⟩, hd σ' H' (e2.trans e') ?_⟩
    rw [← hx.len]
    exact p
/-- for x, y in zip(list, list), of one length -/
theorem s_forZ {te2 : TE} {es : List D} (jj : F.J H) (ha : Ev F tl σ H (.lst ds)) (hb : Ev F te2 σ H (.lst es)) (hl : ds.length = es.length) (Pv : Nat → L2.St → Hp → Prop) (h0 : ∀ H2, Ext F H H2 → Pv 0 σ H2)
    (hs : ∀ (n : Nat) d d2 v w σ' H', ds[n]? = some d → es[n]? = some d2 → Ext F H H' → Pv n σ' H' → ∀ H2, Ext F H' H2 → Dv F H2 v d → Dv F H2 w d2 → tb { D' with nx := fun σ3 H3 => Ext F H' H3 ∧ Pv (n + 1) σ3 H3, ct := fun σ3 H3 => Ext F H' H3 ∧ Pv (n + 1) σ3 H3, bk := D'.nx } ((σ'.set i (some v)).set j (some w)) H2)
    (hd : ∀ σ' H', Ext F H H' → Pv ds.length σ' H' → D'.nx σ' H') : tFor (iZip K (tCons tl (tCons te2 tNil))) (gTup K 2 (gCons (gName i) (gCons (gName j) gNil))) tb D' σ H := by
  refine ha.use jj fun v H2 e2 hv => (hb.mono e2).use e2.j fun w H3 e3 hw => ?_
  obtain ⟨a, xs, rfl, s, ha, hx⟩ := hv.lst_inv
  obtain ⟨b, ys, rfl, s', hb, hy⟩ := hw.lst_inv
  have lxy : xs.length = ys.length := by rw [hx.len, hy.len, hl]
  refine ⟨a, b, xs, ys, rfl, SqL.of (e3.k _ _ s ha), SqL.of hb, fun i m σ' H' => m = xs.length - i ∧ i ≤ xs.length ∧ Ext F H3 H' ∧ Pv i σ' H', ⟨xs.length, rfl, Nat.zero_le _, Ext.refl e3.j, h0 H3 (e2.trans e3)⟩, ?_⟩
  rintro n m σ' H' ⟨rfl, hi, e', p⟩
  have q : SqL K H' a xs := SqL.of (e'.k _ _ s (e3.k _ _ s ha))
  have q' : SqL K H' b ys := SqL.of (e'.k _ _ s' hb)
  by_cases hlt : n < xs.length
  · refine .inr ⟨⟨xs, ys, xs[n], ys[n], q, q', by simp [hlt], by simp [← lxy, hlt]⟩, fun σ3 H3 => Ext F H' H3 ∧ Pv (n + 1) σ3 H3, fun σ3 H3 p' => ⟨xs.length - (n + 1), by omega, rfl, hlt, e'.trans p'.1, p'.2⟩, fun x H4 y => ?_⟩
    obtain ⟨T, x1, y1, rfl, hT, rfl, yx, yy⟩ := y
    obtain ⟨d, hd1, hd2⟩ := hx.getV (yx xs q)
    obtain ⟨d2, hd3, hd4⟩ := hy.getV (yy ys q')
    have eT : Ext F H' (upd H' T (.tup [x1, y1])) := (Ext.refl e'.j).new hT
    refine ⟨T, _, rfl, SqT.of upd_same, rfl, _, _, rfl, _, _, rfl, rfl, ?_⟩
    exact hs n d d2 x1 y1 σ' H' hd1 hd3 ((e2.trans e3).trans e') p _ eT (((hd2.mono e3).mono e').mono eT) ((hd4.mono e').mono eT)
  · have ei : n = xs.length := by omega
    subst ei
    refine .inl ⟨⟨xs, ys, q, q', Or.inl (Nat.le_refl _)⟩, hd σ' H' ((e2.trans e3).trans e') ?_⟩
    rw [← hx.len]
    exact p
/-- while -/
theorem s_while (jj : F.J H) (W : Nat → L2.St → Hp → Prop) (m0 : Nat) (h0 : W m0 σ H)
    (hs : ∀ m σ' H', Ext F H H' → W m σ' H' → ∃ b, EvT F t σ' H' b ∧ (b = true → ∀ H2, Ext F H' H2 → tb { D' with nx := fun σ3 H3 => Ext F H' H3 ∧ ∃ m', m' < m ∧ W m' σ3 H3, ct := fun σ3 H3 => Ext F H' H3 ∧ ∃ m', m' < m ∧ W m' σ3 H3, bk := D'.nx } σ' H2) ∧
      (b = false → ∀ H2, Ext F H' H2 → D'.nx σ' H2)) : tWhile t tb D' σ H := by
  refine ⟨fun m σ' H' => Ext F H H' ∧ W m σ' H', ⟨m0, Ext.refl jj, h0⟩, ?_⟩
  rintro m σ' H' ⟨e', w⟩
  obtain ⟨b, hb, h1, h2⟩ := hs m σ' H' e' w
  refine hb.use e'.j fun H2 e2 => ?_
  cases b with
  | true =>
    refine iteT ⟨fun σ3 H3 => Ext F H' H3 ∧ ∃ m', m' < m ∧ W m' σ3 H3, ?_, h1 rfl H2 e2⟩
    rintro σ3 H3 ⟨e3, m', hm, w'⟩
    exact ⟨m', hm, e'.trans e3, w'⟩
  | false => exact iteF (h2 rfl H2 e2)
end

section
variable {F : Fr} {K : PySem.W.Frag} {σ : L2.St} {H H1 : Hp} {ta te tl : TE} {t : TT} {ds : List D} {d d1 d2 d3 d4 d5 : D} {D' : Ends} {tb tc u : TS} {b : Bool} {g : TG} {C : D → Prop} {i j k l m : Nat}
theorem s_setS (jj : F.J H) (h : Ev F te σ H d) (k : ∀ v H2, Ext F H H2 → Dv F H2 v d → u D' (σ.set i (some v)) H2) : tSeq (tAsg te (gName i)) u D' σ H := s_set jj h k
theorem s_setCS (jj : F.J H) (h : EvC F te σ H C) (k : ∀ v H2 d, Ext F H H2 → C d → Dv F H2 v d → u D' (σ.set i (some v)) H2) : tSeq (tAsg te (gName i)) u D' σ H := s_setC jj h k
theorem s_setNS (jj : F.J H) (h : EvN F te σ H ds) (k : ∀ p H2 xs, H p = none → Ext F H H2 → H2 p = some (.lst xs) → DvA F H2 xs ds → u D' (σ.set i (some (.ref p))) H2) : tSeq (tAsg te (gName i)) u D' σ H := s_setN jj h k
theorem s_asgS (jj : F.J H) (h : Ev F te σ H d) (k : ∀ v H2, Ext F H H2 → Dv F H2 v d → g v σ H2 (u D')) : tSeq (tAsg te g) u D' σ H := s_asg jj h k
theorem s_asgCS (jj : F.J H) (h : EvC F te σ H C) (k : ∀ v H2 d, Ext F H H2 → C d → Dv F H2 v d → g v σ H2 (u D')) : tSeq (tAsg te g) u D' σ H := s_asgC jj h k
theorem s_newS (jj : F.J H) (k : ∀ p, H p = none → (F.pin p (.lst [])).J (upd H p (.lst [])) → u D' (σ.set i (some (.ref p))) (upd H p (.lst []))) : tSeq (tAsg (tLst tNil) (gName i)) u D' σ H := s_new jj k
theorem s_newDS (jj : F.J H) (k : ∀ p, H p = none → (F.pin p (.dK [])).J (upd H p (.dK [])) → u D' (σ.set i (some (.ref p))) (upd H p (.dK []))) : tSeq (tAsg tDNewK (gName i)) u D' σ H := s_newD jj k
/-- a return, its value put in another form -/
theorem s_retK (jj : F.J H) (h : Ev F te σ H d1) (k : ∀ v H2, Ext F H H2 → Dv F H2 v d → D'.rt v H2) (e : d1 = d) : tRet te D' σ H := by
  subst e
  exact s_ret jj h k
theorem s_ifTS (jj : F.J H) (h : EvT F t σ H b) (hb : b = true) (h1 : ∀ H2, Ext F H H2 → tb ⟨u D', D'.rt, D'.bk, D'.ct⟩ σ H2) : tSeq (tIfS t tb tc) u D' σ H := s_ifT jj h hb h1
theorem s_ifFS (jj : F.J H) (h : EvT F t σ H b) (hb : b = false) (h2 : ∀ H2, Ext F H H2 → u D' σ H2) : tSeq (tIfS t tb tNext) u D' σ H := s_ifF jj h hb h2
/-- if t: tb, then u -/
theorem s_ifS (jj : F.J H) (h : EvT F t σ H b) (h1 : b = true → ∀ H2, Ext F H H2 → tb ⟨u D', D'.rt, D'.bk, D'.ct⟩ σ H2) (h2 : b = false → ∀ H2, Ext F H H2 → u D' σ H2) : tSeq (tIfS t tb tNext) u D' σ H := s_if jj h h1 h2
theorem s_ifES (jj : F.J H) (h : EvT F t σ H b) (h1 : b = true → ∀ H2, Ext F H H2 → tb ⟨u D', D'.rt, D'.bk, D'.ct⟩ σ H2) (h2 : b = false → ∀ H2, Ext F H H2 → tc ⟨u D', D'.rt, D'.bk, D'.ct⟩ σ H2) : tSeq (tIfS t tb tc) u D' σ H := s_if jj h h1 h2
theorem s_ifN (jj : F.J H) (h : EvT F t σ H b) (h1 : b = true → ∀ H2, Ext F H H2 → tb D' σ H2) (h2 : b = false → ∀ H2, Ext F H H2 → D'.nx σ H2) : tIfS t tb tNext D' σ H := s_if jj h h1 h2
theorem s_dropS (jj : F.J H) (h : Ev F te σ H d) (k : ∀ H2, Ext F H H2 → u D' σ H2) : tSeq (tDrop te) u D' σ H := s_drop jj h k
theorem s_forTS (jj : F.J H) (h : Ev F tl σ H (.tup ds)) (Pv : Nat → L2.St → Hp → Prop) (h0 : ∀ H2, Ext F H H2 → Pv 0 σ H2)
    (hs : ∀ i d v σ' H', ds[i]? = some d → Ext F H H' → Pv i σ' H' → Dv F H' v d → g v σ' H' fun σ2 H2 => tb ⟨fun σ3 H3 => Ext F H' H3 ∧ Pv (i + 1) σ3 H3, D'.rt, u D', fun σ3 H3 => Ext F H' H3 ∧ Pv (i + 1) σ3 H3⟩ σ2 H2)
    (hd : ∀ σ' H', Ext F H H' → Pv ds.length σ' H' → u D' σ' H') : tSeq (tFor (iTup K tl) g tb) u D' σ H := s_forT jj h Pv h0 hs hd
theorem s_forTSp {G : Fr} (le : Le1 G F) (jj : G.J H) (h : Ev G tl σ H (.tup ds)) (Pv : Nat → L2.St → Hp → Prop) (h0 : ∀ H2, Ext G H H2 → Pv 0 σ H2)
    (hs : ∀ i d v σ' H', ds[i]? = some d → Ext F H H' → Pv i σ' H' → Dv F H' v d → g v σ' H' fun σ2 H2 => tb ⟨fun σ3 H3 => Ext F H' H3 ∧ Pv (i + 1) σ3 H3, D'.rt, u D', fun σ3 H3 => Ext F H' H3 ∧ Pv (i + 1) σ3 H3⟩ σ2 H2)
    (hd : ∀ σ' H', Ext F H H' → Pv ds.length σ' H' → u D' σ' H') : tSeq (tFor (iTup K tl) g tb) u D' σ H := s_forTp le jj h Pv h0 hs hd
theorem s_forLS (jj : F.J H) (h : Ev F tl σ H (.lst ds)) (Pv : Nat → L2.St → Hp → Prop) (h0 : ∀ H2, Ext F H H2 → Pv 0 σ H2)
    (hs : ∀ i d v σ' H', ds[i]? = some d → Ext F H H' → Pv i σ' H' → Dv F H' v d → g v σ' H' fun σ2 H2 => tb ⟨fun σ3 H3 => Ext F H' H3 ∧ Pv (i + 1) σ3 H3, D'.rt, u D', fun σ3 H3 => Ext F H' H3 ∧ Pv (i + 1) σ3 H3⟩ σ2 H2)
    (hd : ∀ σ' H', Ext F H H' → Pv ds.length σ' H' → u D' σ' H') : tSeq (tFor (iList K tl) g tb) u D' σ H := s_forL jj h Pv h0 hs hd
theorem s_forLSp {G : Fr} (le : Le1 G F) (jj : G.J H) (h : Ev G tl σ H (.lst ds)) (Pv : Nat → L2.St → Hp → Prop) (h0 : ∀ H2, Ext G H H2 → Pv 0 σ H2)
    (hs : ∀ i d v σ' H', ds[i]? = some d → Ext F H H' → Pv i σ' H' → Dv F H' v d → g v σ' H' fun σ2 H2 => tb ⟨fun σ3 H3 => Ext F H' H3 ∧ Pv (i + 1) σ3 H3, D'.rt, u D', fun σ3 H3 => Ext F H' H3 ∧ Pv (i + 1) σ3 H3⟩ σ2 H2)
    (hd : ∀ σ' H', Ext F H H' → Pv ds.length σ' H' → u D' σ' H') : tSeq (tFor (iList K tl) g tb) u D' σ H := s_forLp le jj h Pv h0 hs hd
theorem s_forRS {n : Int} (jj : F.J H) (h : Ev F te σ H (.int n)) (hn : n ≤ 1000000) (hn0 : -1000000 ≤ n) (Pv : Nat → L2.St → Hp → Prop) (h0 : ∀ H2, Ext F H H2 → Pv 0 σ H2)
    (hs : ∀ (i : Nat) σ' H', i < n.toNat → Ext F H H' → Pv i σ' H' → g (.int (i : Int)) σ' H' fun σ2 H2 => tb ⟨fun σ3 H3 => Ext F H' H3 ∧ Pv (i + 1) σ3 H3, D'.rt, u D', fun σ3 H3 => Ext F H' H3 ∧ Pv (i + 1) σ3 H3⟩ σ2 H2)
    (hd : ∀ σ' H', Ext F H H' → Pv n.toNat σ' H' → u D' σ' H') : tSeq (tFor (iRng1 (tCons te tNil)) g tb) u D' σ H := s_forR jj h hn hn0 Pv h0 hs hd
theorem s_forRSp {G : Fr} (le : Le1 G F) {n : Int} (jj : G.J H) (h : Ev G te σ H (.int n)) (hn : n ≤ 1000000) (hn0 : -1000000 ≤ n) (Pv : Nat → L2.St → Hp → Prop) (h0 : ∀ H2, Ext G H H2 → Pv 0 σ H2)
    (hs : ∀ (i : Nat) σ' H', i < n.toNat → Ext F H H' → Pv i σ' H' → g (.int (i : Int)) σ' H' fun σ2 H2 => tb ⟨fun σ3 H3 => Ext F H' H3 ∧ Pv (i + 1) σ3 H3, D'.rt, u D', fun σ3 H3 => Ext F H' H3 ∧ Pv (i + 1) σ3 H3⟩ σ2 H2)
    (hd : ∀ σ' H', Ext F H H' → Pv n.toNat σ' H' → u D' σ' H') : tSeq (tFor (iRng1 (tCons te tNil)) g tb) u D' σ H := s_forRp le jj h hn hn0 Pv h0 hs hd
theorem s_forRCS (jj : F.J H) (h : EvC F te σ H C) (hn : ∀ d, C d → ∃ n : Int, d = .int n ∧ -1000000 ≤ n ∧ n ≤ 1000000) (Pv : Int → Nat → L2.St → Hp → Prop) (h0 : ∀ n H2, C (.int n) → Ext F H H2 → Pv n 0 σ H2)
    (hs : ∀ n (i : Nat) σ' H', C (.int n) → i < n.toNat → Ext F H H' → Pv n i σ' H' → g (.int (i : Int)) σ' H' fun σ2 H2 => tb ⟨fun σ3 H3 => Ext F H' H3 ∧ Pv n (i + 1) σ3 H3, D'.rt, u D', fun σ3 H3 => Ext F H' H3 ∧ Pv n (i + 1) σ3 H3⟩ σ2 H2)
    (hd : ∀ n σ' H', C (.int n) → Ext F H H' → Pv n n.toNat σ' H' → u D' σ' H') : tSeq (tFor (iRng1 (tCons te tNil)) g tb) u D' σ H := s_forRC jj h hn Pv h0 hs hd
theorem s_forRCSp {G : Fr} (le : Le1 G F) (jj : G.J H) (h : EvC G te σ H C) (hn : ∀ d, C d → ∃ n : Int, d = .int n ∧ -1000000 ≤ n ∧ n ≤ 1000000) (Pv : Int → Nat → L2.St → Hp → Prop) (h0 : ∀ n H2, C (.int n) → Ext G H H2 → Pv n 0 σ H2)
    (hs : ∀ n (i : Nat) σ' H', C (.int n) → i < n.toNat → Ext F H H' → Pv n i σ' H' → g (.int (i : Int)) σ' H' fun σ2 H2 => tb ⟨fun σ3 H3 => Ext F H' H3 ∧ Pv n (i + 1) σ3 H3, D'.rt, u D', fun σ3 H3 => Ext F H' H3 ∧ Pv n (i + 1) σ3 H3⟩ σ2 H2)
    (hd : ∀ n σ' H', C (.int n) → Ext F H H' → Pv n n.toNat σ' H' → u D' σ' H') : tSeq (tFor (iRng1 (tCons te tNil)) g tb) u D' σ H := s_forRCp le jj h hn Pv h0 hs hd
theorem s_forES (jj : F.J H) (h : Ev F tl σ H (.lst ds)) (Pv : Nat → L2.St → Hp → Prop) (h0 : ∀ H2, Ext F H H2 → Pv 0 σ H2)
    (hs : ∀ (n : Nat) d v σ' H', ds[n]? = some d → Ext F H H' → Pv n σ' H' → ∀ H2, Ext F H' H2 → Dv F H2 v d → tb ⟨fun σ3 H3 => Ext F H' H3 ∧ Pv (n + 1) σ3 H3, D'.rt, u D', fun σ3 H3 => Ext F H' H3 ∧ Pv (n + 1) σ3 H3⟩ ((σ'.set i (some (.int (n : Nat)))).set j (some v)) H2)
    (hd : ∀ σ' H', Ext F H H' → Pv ds.length σ' H' → u D' σ' H') : tSeq (tFor (iEnum K (tCons tl tNil)) (gTup K 2 (gCons (gName i) (gCons (gName j) gNil))) tb) u D' σ H := s_forE jj h Pv h0 hs hd
theorem s_forZS {te2 : TE} {es : List D} (jj : F.J H) (ha : Ev F tl σ H (.lst ds)) (hb : Ev F te2 σ H (.lst es)) (hl : ds.length = es.length) (Pv : Nat → L2.St → Hp → Prop) (h0 : ∀ H2, Ext F H H2 → Pv 0 σ H2)
    (hs : ∀ (n : Nat) d d2 v w σ' H', ds[n]? = some d → es[n]? = some d2 → Ext F H H' → Pv n σ' H' → ∀ H2, Ext F H' H2 → Dv F H2 v d → Dv F H2 w d2 → tb ⟨fun σ3 H3 => Ext F H' H3 ∧ Pv (n + 1) σ3 H3, D'.rt, u D', fun σ3 H3 => Ext F H' H3 ∧ Pv (n + 1) σ3 H3⟩ ((σ'.set i (some v)).set j (some w)) H2)
    (hd : ∀ σ' H', Ext F H H' → Pv ds.length σ' H' → u D' σ' H') : tSeq (tFor (iZip K (tCons tl (tCons te2 tNil))) (gTup K 2 (gCons (gName i) (gCons (gName j) gNil))) tb) u D' σ H := s_forZ jj ha hb hl Pv h0 hs hd
theorem s_whileS (jj : F.J H) (W : Nat → L2.St → Hp → Prop) (m0 : Nat) (h0 : W m0 σ H)
    (hs : ∀ m σ' H', Ext F H H' → W m σ' H' → ∃ b, EvT F t σ' H' b ∧ (b = true → ∀ H2, Ext F H' H2 → tb ⟨fun σ3 H3 => Ext F H' H3 ∧ ∃ m', m' < m ∧ W m' σ3 H3, D'.rt, u D', fun σ3 H3 => Ext F H' H3 ∧ ∃ m', m' < m ∧ W m' σ3 H3⟩ σ' H2) ∧
      (b = false → ∀ H2, Ext F H' H2 → u D' σ' H2)) : tSeq (tWhile t tb) u D' σ H := s_while jj W m0 h0 hs
end

theorem s_parS {F : Fr} {σ : L2.St} {H : Hp} {ta : TA} {u : TS} {D' : Ends} {i j : Nat} {d1 d2 : D} (jj : F.J H) (h : EvA F ta σ H [d1, d2]) (k : ∀ v w H2, Ext F H H2 → Dv F H2 v d1 → Dv F H2 w d2 → u D' ((σ.set i (some v)).set j (some w)) H2) :
    tSeq (tPar i j ta) u D' σ H := h.use jj fun vs H2 e2 hv => by
  obtain ⟨v, ws, rfl, h1, hw⟩ := hv.cons_inv
  obtain ⟨w, rfl, h2⟩ := hw.one
  exact ⟨v, w, rfl, k v w H2 e2 h1 h2⟩
/-- name = dict(d) -/
theorem s_dictS {F : Fr} {σ : L2.St} {H : Hp} {te : TE} {u : TS} {D' : Ends} {i : Nat} {r : List (Key × V)} (jj : F.J H) (h : Ev F te σ H (.dic r)) (k : ∀ p H1, Ext F H H1 → H1 p = none → u D' (σ.set i (some (.ref p))) (upd H1 p (.dK r))) :
    tSeq (tAsg (tCB (fun xs H Q => ∃ (a : Addr) (kvs : List (Key × V)), xs = [.ref a] ∧ Rd H a (.dK kvs) ∧ ∀ p, H p = none → Q (.ref p) (upd H p (.dK kvs))) (tCons te tNil)) (gName i)) u D' σ H := h.use jj fun v H2 e2 hv => by
  obtain ⟨a, rfl, s, ha⟩ := hv.dic_inv
  exact ⟨a, r, rfl, Rd.of ha, fun p hp => k p H2 e2 hp⟩
section
variable {F : Fr} {K : PySem.W.Frag} {σ : L2.St} {H H1 : Hp} {te tl : TE} {tt : TT} {g : TG} {vs : List Nat} {xs : List D}
theorem mutF {p : Addr} {o u : HO} (e : Ext F H H1) (h0 : H p = none) (hU : ¬ F.U p) (hp : H1 p = some o) (ho : isTup o = false) : Ext F H (upd H1 p u) :=
  ⟨F.loc e.j fun a x ua h => by rw [upd_ne fun z => hU (by rw [← z]; exact ua)]; exact h, fun a x s h => by rw [upd_ne (ne_of_none h h0)]; exact e.k a x s h, fun a x h => by rw [upd_ne (ne_of_none h h0)]; exact e.t a x h⟩
theorem tupF {p : Addr} {o u : HO} (hp : H p = some o) (ho : isTup o = false) : ∀ a zs, H a = some (.tup zs) → upd H p u a = some (.tup zs) := fun a zs h => by
  rw [upd_ne fun z => by rw [z, hp] at h; cases h; cases ho]
  exact h
/-- [f x for x in list if p x], the items flat or tuples -/
theorem ev_lcL {α : Type} {ws : List α} {enc : α → D} (h : Ev F tl σ H (.lst (ws.map enc))) (p : α → Bool) (f : α → D) (hf : ∀ d, d ∈ ws → (f d).imm = true) (hz : ws.length ≤ 40000)
    (hs : ∀ (i : Nat) d v H', ws[i]? = some d → Ext F H H' → Dv F H' v (enc d) → ∃ σ2, (∀ Q : L2.St → Hp → Prop, Q σ2 H' → g v (wipe σ vs) H' Q) ∧ wipe σ2 vs = wipe σ vs ∧ EvT F tt σ2 H' (p d) ∧ (p d = true → Ev F te σ2 H' (f d))) :
    EvN F (tLc (iList K tl) g tt te vs) σ H ((ws.filter p).map f) := fun H0 e Q q => h H0 e _ fun v H2 e2 hv => by
  obtain ⟨a, ys, rfl, s, ha, hx⟩ := hv.lst_inv
  have lyw : ys.length = ws.length := by rw [hx.len, List.length_map]
  refine ⟨a, rfl, ⟨ys, SqL.of ha⟩, fun Dl hD => ?_⟩
  refine lc_list (xs := ys) (fun i H' => Ext F H2 H' ∧ ∃ acc, H' Dl = some (.lst acc) ∧ DvA F H' acc (((ws.take i).filter p).map f)) ⟨(Ext.refl e2.j).new hD, [], upd_same, .nil⟩ (fun i H' _ pp => SqL.of (pp.1.k _ _ s ha)) ?_ ?_
  · rintro i x H' hi ⟨e', acc, hacc, hda⟩
    obtain ⟨d0, hd0, hd2⟩ := hx.getV hi
    rw [List.getElem?_map] at hd0
    obtain ⟨d, hd1, rfl⟩ := Option.map_eq_some_iff.mp hd0
    obtain ⟨σ2, hg, hw, ht, he⟩ := hs i d x H' hd1 ((e.trans e2).trans e') (hd2.mono e')
    have hil : i < ws.length := (List.getElem?_eq_some_iff.mp hd1).1
    have etake : ws.take (i + 1) = ws.take i ++ [d] := by
      rw [List.take_succ, hd1]
      rfl
    have lacc : acc.length < 100000 := by
      rw [hda.len, List.length_map]
      have := List.length_filter_le p (ws.take i)
      rw [List.length_take] at this
      omega
    refine hg _ ⟨hw, ht.use e'.j fun H3 e3 => ?_⟩
    have nS : ¬ F.S Dl := e2.fresh hD
    cases hp : p d with
    | true =>
      refine iteT (((he hp).mono e3).use e3.j fun y H4 e4 hy => ?_)
      have h4 : H4 Dl = some (.lst acc) := (e3.trans e4).k _ _ nS hacc
      refine ⟨acc, h4, sz_lt lacc, mutF ((e'.trans e3).trans e4) hD (e2.freshU hD) h4 rfl, _, upd_same, ?_⟩
      rw [etake, List.filter_append, List.map_append, List.filter_cons, if_pos hp]
      have im : immA (((ws.take i).filter p).map f) = true := immA_all.mpr fun z hz => by
        obtain ⟨w, hw, rfl⟩ := List.mem_map.mp hz
        exact hf w (List.mem_of_mem_take (List.mem_filter.mp hw).1)
      exact ((hda.mono (e3.trans e4)).cast (tupF h4 rfl) im).snoc (hy.cast (tupF h4 rfl) (hf d (List.mem_of_getElem? hd1)))
    | false =>
      refine iteF ⟨e'.trans e3, acc, e3.k _ _ nS hacc, ?_⟩
      rw [etake, List.filter_append, List.map_append, List.filter_cons, if_neg (by rw [hp]; decide)]
      show DvA F H3 acc (_ ++ [])
      rw [List.append_nil]
      exact hda.mono e3
  · rintro H' ⟨e', acc, hacc, hda⟩
    rw [lyw, List.take_length] at hda
    exact q Dl H' acc (e2.back hD) (e2.trans e') hacc hda
theorem et_yes : EvT F tYes σ H true := fun H1 e Q q => q H1 (Ext.refl e.j)
theorem filter_yes {α : Type} (l : List α) : l.filter (fun _ => true) = l := List.filter_eq_self.mpr fun _ _ => rfl
/-- without a test -/
theorem ev_lcM {α : Type} {ws : List α} {enc : α → D} (h : Ev F tl σ H (.lst (ws.map enc))) (f : α → D) (hf : ∀ d, d ∈ ws → (f d).imm = true) (hz : ws.length ≤ 40000)
    (hs : ∀ (i : Nat) d v H', ws[i]? = some d → Ext F H H' → Dv F H' v (enc d) → ∃ σ2, (∀ Q : L2.St → Hp → Prop, Q σ2 H' → g v (wipe σ vs) H' Q) ∧ wipe σ2 vs = wipe σ vs ∧ Ev F te σ2 H' (f d)) :
    EvN F (tLc (iList K tl) g tYes te vs) σ H (ws.map f) := by
  have z := ev_lcL (F := F) (K := K) (σ := σ) (H := H) (te := te) (g := g) (vs := vs) h (fun _ => true) f hf hz fun i d v H' a b c => by
    obtain ⟨σ2, h1, h2, h3⟩ := hs i d v H' a b c
    exact ⟨σ2, h1, h2, et_yes, fun _ => h3⟩
  rw [filter_yes] at z
  exact z
/-- a pair taken apart -/
theorem g_two {i j : Nat} {v : V} {d1 d2 : D} (hv : Dv F H v (.tup [d1, d2])) : ∃ v1 v2, Dv F H v1 d1 ∧ Dv F H v2 d2 ∧ ∀ Q : L2.St → Hp → Prop, Q ((σ.set i (some v1)).set j (some v2)) H → gTup K 2 (gCons (gName i) (gCons (gName j) gNil)) v σ H Q := by
  obtain ⟨a, xs, rfl, h, hs⟩ := hv.tup_inv
  obtain ⟨v1, r, rfl, h1, hs⟩ := hs.cons_inv
  obtain ⟨v2, r, rfl, h2, hs⟩ := hs.cons_inv
  cases hs.nil_inv
  exact ⟨v1, v2, h1, h2, fun Q q => ⟨a, _, rfl, SqT.of h, rfl, v1, _, rfl, v2, _, rfl, rfl, q⟩⟩
/-- dicts -/
theorem ev_newK : Ev F tDNewK σ H (.dic []) := fun H1 e Q q p hp => q _ _ ((Ext.refl e.j).new hp) (.dic (e.fresh hp) upd_same)
theorem ev_dget {ta tb : TE} {r : List (Key × V)} {k : Str} {v : V} {d : D} (hd : Ev F ta σ H (.dic r)) (hk : Ev F tb σ H (.str k)) (hv : valV r (Sum.inr k) = some v) (dv : ∀ H1, Dv F H1 v d) : Ev F (tDGet ta tb) σ H d := fun H1 e Q q =>
  hd H1 e _ fun x H2 e2 hx => hk H2 (e.trans e2) _ fun y H3 e3 hy => by
    obtain ⟨a, rfl, s, ha⟩ := hx.dic_inv
    cases hy.str_inv
    have z := DGet.k (k := Sum.inr k) (e3.k _ _ s ha)
    rw [hv] at z
    exact ⟨a, v, rfl, z, q v H3 (e2.trans e3) (dv H3)⟩
theorem ev_dget1 {ta tb : TE} {r : List (Key × V)} {k : Str} {d : D} (hd : Ev F ta σ H (.dic r)) (hk : Ev F tb σ H (.str k)) (dv : ∀ H1, Dv F H1 ((valV r (Sum.inr k)).getD .non) d) : Ev F (tDGet1 ta tb) σ H d := fun H1 e Q q =>
  hd H1 e _ fun x H2 e2 hx => by
    obtain ⟨a, rfl, s, ha⟩ := hx.dic_inv
    refine ⟨a, rfl, Or.inl ⟨r, Rd.of ha⟩, hk H2 (e.trans e2) _ fun y H3 e3 hy => ?_⟩
    cases hy.str_inv
    exact ⟨_, DGet.k (k := Sum.inr k) (e3.k _ _ s ha), q _ H3 (e2.trans e3) (dv H3)⟩
/-- slices of lists -/
theorem DvA.cut {ys : List V} {ds : List D} (h : DvA F H ys ds) {lo hi : Nat} : DvA F H ((ys.drop lo).take hi) ((ds.drop lo).take hi) := (h.drop lo).take hi
theorem ev_slTo {ta tb : TE} {ds : List D} {m : Int} (ha : Ev F ta σ H (.lst ds)) (hb : Ev F tb σ H (.int m)) (h0 : 0 ≤ m) : Ev F (tSl (rSlL K) ta tNoPart (tPart tb)) σ H (.lst (ds.take m.toNat)) := fun H1 e Q q =>
  ha H1 e _ fun x H2 e2 hx => hb H2 (e.trans e2) _ fun y H3 e3 hy => by
    obtain ⟨a, ys, rfl, s, hl, hd⟩ := hx.lst_inv
    cases hy.int_inv
    refine ⟨m, rfl, a, ys, rfl, SqL.of (e3.k _ _ s hl), fun p hp => ?_⟩
    have r := Ext.refl e3.j
    refine q _ _ ((e2.trans e3).new hp) (.lst (e3.fresh hp) upd_same ?_)
    have ec : cutV ys none (some m) = ys.take m.toNat := by
      unfold cutV
      have z : m = ((m.toNat : Nat) : Int) := by omega
      rw [z, HT.sIx_none, HT.sIx_nat, List.drop_zero, Nat.sub_zero]
      show ys.take (min m.toNat ys.length) = ys.take m.toNat
      by_cases hle : m.toNat ≤ ys.length
      · rw [Nat.min_eq_left hle]
      · rw [Nat.min_eq_right (by omega), List.take_length, List.take_of_length_le (by omega)]
    rw [ec]
    exact ((hd.mono e3).take _).mono (r.new hp)
theorem ev_slFrom1 {ta : TE} {ds : List D} (ha : Ev F ta σ H (.lst ds)) : Ev F (tSl (rSlL K) ta (tPart (tC (.int 1))) tNoPart) σ H (.lst (ds.drop 1)) := fun H1 e Q q =>
  ha H1 e _ fun x H2 e2 hx => by
    obtain ⟨a, ys, rfl, s, hl, hd⟩ := hx.lst_inv
    refine ⟨1, rfl, a, ys, rfl, SqL.of hl, fun p hp => ?_⟩
    have r := Ext.refl e2.j
    refine q _ _ (e2.new hp) (.lst (e2.fresh hp) upd_same ?_)
    have ec : cutV ys (some 1) none = ys.drop 1 := by
      unfold cutV
      rw [show (1 : Int) = ((1 : Nat) : Int) from rfl, HT.sIx_none, HT.sIx_nat]
      cases ys with
      | nil => rfl
      | cons y ys =>
        rw [List.length_cons, Nat.min_eq_left (by omega)]
        show (ys.take (ys.length + 1 - 1)) = ys
        rw [Nat.add_sub_cancel, List.take_length]
    rw [ec]
    exact (hd.drop 1).mono (r.new hp)
/-- sum -/
theorem ints_of : ∀ {ys : List V} {ns : List Int}, DvA F H ys (ns.map D.int) → ys = ns.map V.int
  | [], [], _ => rfl
  | [], _ :: _, h => by cases h
  | _ :: _, [], h => by cases h
  | y :: ys, n :: ns, .cons a b => by
    rw [a.int_inv, ints_of b]
    rfl
theorem rc_sum {ns : List Int} : RC F (rSum K) [.lst (ns.map D.int)] H (.int ns.sum) := fun vs H1 e hv Q q => by
  obtain ⟨v, rfl, hz⟩ := hv.one
  obtain ⟨a, xs, rfl, s, h, hs⟩ := hz.lst_inv
  rw [ints_of hs] at h
  exact ⟨a, ns, rfl, SqL.of h, q _ H1 (Ext.refl e.j) (.int _)⟩
/-- [.. for k in range(n)], each item some answer of C -/
theorem ec_lcR {i : Nat} {N C : D → Prop} (h : EvC F tl σ H N) (hN : ∀ d, N d → ∃ n : Int, d = .int n ∧ -1000 ≤ n ∧ n ≤ 1000) (hC : ∀ d, C d → d.imm = true)
    (hw : ∀ x, wipe ((wipe σ vs).set i (some x)) vs = wipe σ vs) (hs : ∀ (k : Nat) H', Ext F H H' → EvC F te ((wipe σ vs).set i (some (.int (k : Nat)))) H' C) :
    EvC F (tLc (iRng1 (tCons tl tNil)) (gName i) tYes te vs) σ H (fun d => ∃ n ds, N (.int n) ∧ d = .lst ds ∧ ds.length = n.toNat ∧ ∀ z, z ∈ ds → C z) := fun H0 e Q q => h H0 e _ fun v H2 d e2 hc hv => by
  obtain ⟨n, rfl, hn0, hn⟩ := hN d hc
  cases hv.int_inv
  refine ⟨n, rfl, by omega, by omega, fun Dl hD => ?_⟩
  refine lc_range (lo := 0) (n := n.toNat) (fun i H' => Ext F H2 H' ∧ ∃ acc ds, H' Dl = some (.lst acc) ∧ DvA F H' acc ds ∧ ds.length = i ∧ i ≤ n.toNat ∧ ∀ z, z ∈ ds → C z) ⟨(Ext.refl e2.j).new hD, [], [], upd_same, .nil, rfl, Nat.zero_le _, fun z hz => by cases hz⟩ ?_ ?_
  · rintro k H' hk ⟨e', acc, ds, hacc, hda, hl, _, hall⟩
    refine ⟨hw _, ?_⟩
    have e0 : (0 : Int) + (k : Int) = (k : Int) := Int.zero_add _
    rw [e0]
    unfold tYes
    dsimp only
    rw [if_pos rfl]
    refine (hs k H' ((e.trans e2).trans e')).use e'.j fun y H4 dy e4 cy hy => ?_
    have nS : ¬ F.S Dl := e2.fresh hD
    have h4 : H4 Dl = some (.lst acc) := e4.k _ _ nS hacc
    have im : immA ds = true := immA_all.mpr fun z hz => hC z (hall z hz)
    refine ⟨acc, h4, sz_lt (by rw [hda.len, hl]; omega), mutF (e'.trans e4) hD (e2.freshU hD) h4 rfl, _, ds ++ [dy], upd_same, ((hda.mono e4).cast (tupF h4 rfl) im).snoc (hy.cast (tupF h4 rfl) (hC dy cy)), by rw [List.length_append, hl]; rfl, hk, fun z hz => ?_⟩
    rcases List.mem_append.mp hz with hz | hz
    · exact hall z hz
    · rw [List.mem_singleton.mp hz]
      exact cy
  · rintro H' ⟨e', acc, ds, hacc, hda, hl, _, hall⟩
    exact q _ H' (.lst ds) (e2.trans e') ⟨n, ds, hc, rfl, hl, hall⟩ (.lst (e2.fresh hD) hacc hda)
end

mutual
def D.eqb : D → D → Bool
  | .non, .non => true
  | .bl a, .bl b => a == b
  | .int i, .int j => decide (i = j)
  | .str x, .str y => decide (x = y)
  | .tup xs, .tup ys => eqbA xs ys
  | .lst xs, .lst ys => eqbA xs ys
  | _, _ => false
def eqbA : List D → List D → Bool
  | [], [] => true
  | x :: xs, y :: ys => x.eqb y && eqbA xs ys
  | _, _ => false
end
mutual
/-- no deeper than n, made of None, ints, texts (bools where b), tuples, lists -/
def D.fit (b : Bool) : Nat → D → Bool
  | _, .non => true
  | _, .bl _ => b
  | _, .int _ => true
  | _, .str x => PySem.PyData.strOk x
  | n + 1, .tup xs => fitA b n xs
  | n + 1, .lst xs => fitA b n xs
  | _, _ => false
def fitA (b : Bool) : Nat → List D → Bool
  | _, [] => true
  | n, x :: xs => x.fit b n && fitA b n xs
end
mutual
def D.py : D → PyData
  | .non => .none
  | .bl b => .bool b
  | .int i => .int i
  | .str x => .str x
  | .tup xs => .tuple (pyA xs)
  | .lst xs => .list (pyA xs)
  | _ => .none
def pyA : List D → List PyData
  | [] => []
  | x :: xs => x.py :: pyA xs
end
theorem fitA_all {b : Bool} {n : Nat} : ∀ {ds : List D}, fitA b n ds = true ↔ ∀ d, d ∈ ds → d.fit b n = true
  | [] => by
    constructor
    · intro _ d h
      cases h
    · intro _
      rw [fitA]
  | d :: ds => by
    rw [fitA, Bool.and_eq_true, fitA_all (ds := ds)]
    constructor
    · rintro ⟨a, b⟩ x hx
      rcases List.mem_cons.mp hx with rfl | hx
      · exact a
      · exact b x hx
    · intro h
      exact ⟨h d (List.mem_cons.mpr (Or.inl rfl)), fun x hx => h x (List.mem_cons.mpr (Or.inr hx))⟩
mutual
theorem fit_py {b : Bool} : ∀ (n : Nat) (d : D), d.fit b n = true → d.py.canLay0 = true ∧ d.py.depth ≤ n
  | _, .non, _ => ⟨rfl, Nat.zero_le _⟩
  | _, .bl _, _ => ⟨rfl, Nat.zero_le _⟩
  | _, .int _, _ => ⟨rfl, Nat.zero_le _⟩
  | _, .str x, h => by
    rw [D.fit] at h
    exact ⟨h, Nat.zero_le _⟩
  | 0, .tup xs, h => by simp [D.fit] at h
  | 0, .lst xs, h => by simp [D.fit] at h
  | n + 1, .tup xs, h => by
    rw [D.fit] at h
    have z := fitA_py n xs h
    exact ⟨z.1, Nat.succ_le_succ z.2⟩
  | n + 1, .lst xs, h => by
    rw [D.fit] at h
    have z := fitA_py n xs h
    exact ⟨z.1, Nat.succ_le_succ z.2⟩
  | _, .dic _, h => by simp [D.fit] at h
  | _, .adr _, h => by simp [D.fit] at h
theorem fitA_py {b : Bool} : ∀ (n : Nat) (ds : List D), fitA b n ds = true → PyData.canLayAll0 (pyA ds) = true ∧ PyData.depthAll (pyA ds) ≤ n
  | _, [], _ => ⟨rfl, Nat.zero_le _⟩
  | n, d :: ds, h => by
    rw [fitA, Bool.and_eq_true] at h
    have z := fit_py n d h.1
    have w := fitA_py n ds h.2
    refine ⟨?_, ?_⟩
    · show (d.py.canLay0 && PyData.canLayAll0 (pyA ds)) = true
      rw [z.1, w.1]
      rfl
    · show max d.py.depth (PyData.depthAll (pyA ds)) ≤ n
      exact Nat.max_le.mpr ⟨z.2, w.2⟩
end
theorem shaped_of {b : Bool} {n : Nat} {d : D} (h : d.fit b n = true) (hn : n ≤ 64) : SeqAt.shaped d.py = true := by
  have z := fit_py n d h
  unfold SeqAt.shaped
  rw [z.1, decide_eq_true (Nat.le_trans z.2 hn)]
  rfl
mutual
theorem eqv_py : ∀ (n : Nat) (d e : D), d.fit false n = true → e.fit false n = true → PyData.eqv d.py e.py = d.eqb e
  | _, .non, .non, _, _ => by simp [D.py, PyData.eqv, D.eqb]
  | _, .non, .int _, _, _ => by simp [D.py, PyData.eqv, D.eqb]
  | _, .non, .str _, _, _ => by simp [D.py, PyData.eqv, D.eqb]
  | _, .non, .tup _, _, _ => by simp [D.py, PyData.eqv, D.eqb]
  | _, .non, .lst _, _, _ => by simp [D.py, PyData.eqv, D.eqb]
  | _, .int _, .non, _, _ => by simp [D.py, PyData.eqv, D.eqb]
  | _, .int i, .int j, _, _ => by
    rw [D.py, D.py, PyData.eqv, D.eqb]
    exact Bool.beq_eq_decide_eq i j
  | _, .int _, .str _, _, _ => by simp [D.py, PyData.eqv, D.eqb]
  | _, .int _, .tup _, _, _ => by simp [D.py, PyData.eqv, D.eqb]
  | _, .int _, .lst _, _, _ => by simp [D.py, PyData.eqv, D.eqb]
  | _, .str _, .non, _, _ => by simp [D.py, PyData.eqv, D.eqb]
  | _, .str _, .int _, _, _ => by simp [D.py, PyData.eqv, D.eqb]
  | _, .str x, .str y, _, _ => by
    rw [D.py, D.py, PyData.eqv, D.eqb]
    exact Bool.beq_eq_decide_eq x y
  | _, .str _, .tup _, _, _ => by simp [D.py, PyData.eqv, D.eqb]
  | _, .str _, .lst _, _, _ => by simp [D.py, PyData.eqv, D.eqb]
  | _, .tup _, .non, _, _ => by simp [D.py, PyData.eqv, D.eqb]
  | _, .tup _, .int _, _, _ => by simp [D.py, PyData.eqv, D.eqb]
  | _, .tup _, .str _, _, _ => by simp [D.py, PyData.eqv, D.eqb]
  | 0, .tup xs, .tup ys, h, _ => by simp [D.fit] at h
  | n + 1, .tup xs, .tup ys, h, h' => by
    rw [D.fit] at h h'
    rw [D.py, D.py, PyData.eqv, D.eqb]
    exact eqvA_py n xs ys h h'
  | _, .tup _, .lst _, _, _ => by simp [D.py, PyData.eqv, D.eqb]
  | _, .lst _, .non, _, _ => by simp [D.py, PyData.eqv, D.eqb]
  | _, .lst _, .int _, _, _ => by simp [D.py, PyData.eqv, D.eqb]
  | _, .lst _, .str _, _, _ => by simp [D.py, PyData.eqv, D.eqb]
  | _, .lst _, .tup _, _, _ => by simp [D.py, PyData.eqv, D.eqb]
  | 0, .lst xs, .lst ys, h, _ => by simp [D.fit] at h
  | n + 1, .lst xs, .lst ys, h, h' => by
    rw [D.fit] at h h'
    rw [D.py, D.py, PyData.eqv, D.eqb]
    exact eqvA_py n xs ys h h'
  | _, .bl _, _, h, _ => by simp [D.fit] at h
  | _, .dic _, _, h, _ => by simp [D.fit] at h
  | _, .adr _, _, h, _ => by simp [D.fit] at h
  | _, _, .bl _, _, h => by simp [D.fit] at h
  | _, _, .dic _, _, h => by simp [D.fit] at h
  | _, _, .adr _, _, h => by simp [D.fit] at h
theorem eqvA_py : ∀ (n : Nat) (ds es : List D), fitA false n ds = true → fitA false n es = true → PyData.eqvAll (pyA ds) (pyA es) = eqbA ds es
  | _, [], [], _, _ => by rw [pyA, PyData.eqvAll, eqbA]
  | _, [], _ :: _, _, _ => by simp [pyA, PyData.eqvAll, eqbA]
  | _, _ :: _, [], _, _ => by simp [pyA, PyData.eqvAll, eqbA]
  | n, d :: ds, e :: es, h, h' => by
    rw [fitA, Bool.and_eq_true] at h h'
    rw [pyA, pyA, PyData.eqvAll, eqbA, eqv_py n d e h.1 h'.1, eqvA_py n ds es h.2 h'.2]
end
mutual
theorem eqb_eq : ∀ (d e : D), d.eqb e = true → d = e
  | .non, .non, _ => rfl
  | .bl a, .bl b, h => by
    rw [D.eqb] at h
    rw [eq_of_beq h]
  | .int i, .int j, h => by
    rw [D.eqb] at h
    rw [of_decide_eq_true h]
  | .str i, .str j, h => by
    rw [D.eqb] at h
    rw [of_decide_eq_true h]
  | .tup xs, .tup ys, h => by
    rw [D.eqb] at h
    rw [eqbA_eq xs ys h]
  | .lst xs, .lst ys, h => by
    rw [D.eqb] at h
    rw [eqbA_eq xs ys h]
  | .non, .bl _, h => by simp [D.eqb] at h
  | .non, .int _, h => by simp [D.eqb] at h
  | .non, .str _, h => by simp [D.eqb] at h
  | .non, .tup _, h => by simp [D.eqb] at h
  | .non, .lst _, h => by simp [D.eqb] at h
  | .non, .dic _, h => by simp [D.eqb] at h
  | .non, .adr _, h => by simp [D.eqb] at h
  | .bl _, .non, h => by simp [D.eqb] at h
  | .bl _, .int _, h => by simp [D.eqb] at h
  | .bl _, .str _, h => by simp [D.eqb] at h
  | .bl _, .tup _, h => by simp [D.eqb] at h
  | .bl _, .lst _, h => by simp [D.eqb] at h
  | .bl _, .dic _, h => by simp [D.eqb] at h
  | .bl _, .adr _, h => by simp [D.eqb] at h
  | .int _, .non, h => by simp [D.eqb] at h
  | .int _, .bl _, h => by simp [D.eqb] at h
  | .int _, .str _, h => by simp [D.eqb] at h
  | .int _, .tup _, h => by simp [D.eqb] at h
  | .int _, .lst _, h => by simp [D.eqb] at h
  | .int _, .dic _, h => by simp [D.eqb] at h
  | .int _, .adr _, h => by simp [D.eqb] at h
  | .str _, .non, h => by simp [D.eqb] at h
  | .str _, .bl _, h => by simp [D.eqb] at h
  | .str _, .int _, h => by simp [D.eqb] at h
  | .str _, .tup _, h => by simp [D.eqb] at h
  | .str _, .lst _, h => by simp [D.eqb] at h
  | .str _, .dic _, h => by simp [D.eqb] at h
  | .str _, .adr _, h => by simp [D.eqb] at h
  | .tup _, .non, h => by simp [D.eqb] at h
  | .tup _, .bl _, h => by simp [D.eqb] at h
  | .tup _, .int _, h => by simp [D.eqb] at h
  | .tup _, .str _, h => by simp [D.eqb] at h
  | .tup _, .lst _, h => by simp [D.eqb] at h
  | .tup _, .dic _, h => by simp [D.eqb] at h
  | .tup _, .adr _, h => by simp [D.eqb] at h
  | .lst _, .non, h => by simp [D.eqb] at h
  | .lst _, .bl _, h => by simp [D.eqb] at h
  | .lst _, .int _, h => by simp [D.eqb] at h
  | .lst _, .str _, h => by simp [D.eqb] at h
  | .lst _, .tup _, h => by simp [D.eqb] at h
  | .lst _, .dic _, h => by simp [D.eqb] at h
  | .lst _, .adr _, h => by simp [D.eqb] at h
  | .dic _, _, h => by simp [D.eqb] at h
  | .adr _, _, h => by simp [D.eqb] at h
theorem eqbA_eq : ∀ (ds es : List D), eqbA ds es = true → ds = es
  | [], [], _ => rfl
  | [], _ :: _, h => by simp [eqbA] at h
  | _ :: _, [], h => by simp [eqbA] at h
  | d :: ds, e :: es, h => by
    rw [eqbA, Bool.and_eq_true] at h
    rw [eqb_eq d e h.1, eqbA_eq ds es h.2]
end
mutual
theorem eqb_refl {b : Bool} : ∀ (n : Nat) (d : D), d.fit b n = true → d.eqb d = true
  | _, .non, _ => by rw [D.eqb]
  | _, .bl b, _ => by rw [D.eqb]; exact beq_self_eq_true b
  | _, .int i, _ => by rw [D.eqb]; exact decide_eq_true rfl
  | _, .str i, _ => by rw [D.eqb]; exact decide_eq_true rfl
  | 0, .tup xs, h => by simp [D.fit] at h
  | n + 1, .tup xs, h => by
    rw [D.fit] at h
    rw [D.eqb]
    exact eqbA_refl n xs h
  | 0, .lst xs, h => by simp [D.fit] at h
  | n + 1, .lst xs, h => by
    rw [D.fit] at h
    rw [D.eqb]
    exact eqbA_refl n xs h
  | _, .dic _, h => by simp [D.fit] at h
  | _, .adr _, h => by simp [D.fit] at h
theorem eqbA_refl {b : Bool} : ∀ (n : Nat) (ds : List D), fitA b n ds = true → eqbA ds ds = true
  | _, [], _ => by rw [eqbA]
  | n, d :: ds, h => by
    rw [fitA, Bool.and_eq_true] at h
    rw [eqbA, eqb_refl n d h.1, eqbA_refl n ds h.2]
    rfl
end
section
variable {F : Fr} {K : PySem.W.Frag} {H : Hp} {d e : D}
mutual
theorem dp_of {b : Bool} : ∀ (n : Nat) (d : D) (v : V), d.fit b n = true → Dv F H v d → Dp K H v d.py
  | _, .non, _, _, .non => .non
  | _, .bl _, _, _, .bl b => .bl b
  | _, .int _, _, _, .int i => .int i
  | _, .str _, _, _, .str x => .str x
  | 0, .tup xs, _, h, _ => by simp [D.fit] at h
  | n + 1, .tup xs, _, h, .tup a r => by
    rw [D.fit] at h
    rw [D.py]
    exact .tup (SqT.of a) (dpA_of n xs _ h r)
  | 0, .lst xs, _, h, _ => by simp [D.fit] at h
  | n + 1, .lst xs, _, h, .lst s a r => by
    rw [D.fit] at h
    rw [D.py]
    exact .lst (SqL.of a) (dpA_of n xs _ h r)
  | _, .dic _, _, h, _ => by simp [D.fit] at h
  | _, .adr _, _, h, _ => by simp [D.fit] at h
theorem dpA_of {b : Bool} : ∀ (n : Nat) (ds : List D) (vs : List V), fitA b n ds = true → DvA F H vs ds → DpAll K H vs (pyA ds)
  | _, [], _, _, .nil => .nil
  | n, d :: ds, _, h, .cons q r => by
    rw [fitA, Bool.and_eq_true] at h
    rw [pyA]
    exact .cons (dp_of n d _ h.1 q) (dpA_of n ds _ h.2 r)
end
theorem rv_eqD (n : Nat) (hd : d.fit false n = true) (he : e.fit false n = true) (hn : n ≤ 64) : RV F (rEqD K) d e H (.bl (d.eqb e)) := fun x y H1 e1 hx hy Q q =>
  ⟨d.py, e.py, dp_of n d x hd hx, dp_of n e y he hy, shaped_of hd hn, shaped_of he hn, by rw [eqv_py n d e hd he]; exact q _ H1 (Ext.refl e1.j) (.bl _)⟩
theorem rv_neD (n : Nat) (hd : d.fit false n = true) (he : e.fit false n = true) (hn : n ≤ 64) : RV F (rNeD K) d e H (.bl (!d.eqb e)) := fun x y H1 e1 hx hy Q q =>
  ⟨d.py, e.py, dp_of n d x hd hx, dp_of n e y he hy, shaped_of hd hn, shaped_of he hn, by rw [eqv_py n d e hd he]; exact q _ H1 (Ext.refl e1.j) (.bl _)⟩
/-- the same data (bools may be among them) -/
theorem rv_neSelf (n : Nat) (hd : d.fit true n = true) (hn : n ≤ 64) : RV F (rNeD K) d d H (.bl false) := fun x y H1 e1 hx hy Q q =>
  ⟨d.py, d.py, dp_of n d x hd hx, dp_of n d y hd hy, shaped_of hd hn, shaped_of hd hn, by rw [PySem.SeqAt.eqv_refl d.py (fit_py n d hd).1]; exact q _ H1 (Ext.refl e1.j) (.bl _)⟩
end
end Le

namespace Le
open PySem PySem.Spec PyProof.Rows L2

theorem le_id {a b : Nat} (h : a ≤ b) : a ≤ b := h
theorem dv_mono {F : Fr} {H H' : Hp} {v : V} {d : D} (e : Ext F H H') (h : Dv F H v d) : Dv F H' v d := h.mono e
theorem dv_pin {F : Fr} {H : Hp} {p : Addr} {o : HO} {v : V} {d : D} (h : Dv (F.add p) H v d) : Dv (F.pin p o) H v d := h.pin
theorem at_id {ds : List D} {i : Int} {d : D} (h : atI ds i = some d) : atI ds i = some d := h
theorem dv_id {F : Fr} {H : Hp} {v : V} {d : D} (h : Dv F H v d) : Dv F H v d := h
section
variable {F : Fr} {H : Hp} {vs : List V} {d1 d2 d3 d4 d5 d6 d7 : D}
theorem DvA.two (h : DvA F H vs [d1, d2]) : ∃ v1 v2, vs = [v1, v2] ∧ Dv F H v1 d1 ∧ Dv F H v2 d2 := by
  obtain ⟨v1, r0, rfl, h1, q0⟩ := h.cons_inv
  obtain ⟨v2, r1, rfl, h2, q1⟩ := q0.cons_inv
  cases q1.nil_inv
  exact ⟨v1, v2, rfl, h1, h2⟩
theorem DvA.three (h : DvA F H vs [d1, d2, d3]) : ∃ v1 v2 v3, vs = [v1, v2, v3] ∧ Dv F H v1 d1 ∧ Dv F H v2 d2 ∧ Dv F H v3 d3 := by
  obtain ⟨v1, r0, rfl, h1, q0⟩ := h.cons_inv
  obtain ⟨v2, r1, rfl, h2, q1⟩ := q0.cons_inv
  obtain ⟨v3, r2, rfl, h3, q2⟩ := q1.cons_inv
  cases q2.nil_inv
  exact ⟨v1, v2, v3, rfl, h1, h2, h3⟩
theorem DvA.four (h : DvA F H vs [d1, d2, d3, d4]) : ∃ v1 v2 v3 v4, vs = [v1, v2, v3, v4] ∧ Dv F H v1 d1 ∧ Dv F H v2 d2 ∧ Dv F H v3 d3 ∧ Dv F H v4 d4 := by
  obtain ⟨v1, r0, rfl, h1, q0⟩ := h.cons_inv
  obtain ⟨v2, r1, rfl, h2, q1⟩ := q0.cons_inv
  obtain ⟨v3, r2, rfl, h3, q2⟩ := q1.cons_inv
  obtain ⟨v4, r3, rfl, h4, q3⟩ := q2.cons_inv
  cases q3.nil_inv
  exact ⟨v1, v2, v3, v4, rfl, h1, h2, h3, h4⟩
theorem DvA.five (h : DvA F H vs [d1, d2, d3, d4, d5]) : ∃ v1 v2 v3 v4 v5, vs = [v1, v2, v3, v4, v5] ∧ Dv F H v1 d1 ∧ Dv F H v2 d2 ∧ Dv F H v3 d3 ∧ Dv F H v4 d4 ∧ Dv F H v5 d5 := by
  obtain ⟨v1, r0, rfl, h1, q0⟩ := h.cons_inv
  obtain ⟨v2, r1, rfl, h2, q1⟩ := q0.cons_inv
  obtain ⟨v3, r2, rfl, h3, q2⟩ := q1.cons_inv
  obtain ⟨v4, r3, rfl, h4, q3⟩ := q2.cons_inv
  obtain ⟨v5, r4, rfl, h5, q4⟩ := q3.cons_inv
  cases q4.nil_inv
  exact ⟨v1, v2, v3, v4, v5, rfl, h1, h2, h3, h4, h5⟩
theorem DvA.six (h : DvA F H vs [d1, d2, d3, d4, d5, d6]) : ∃ v1 v2 v3 v4 v5 v6, vs = [v1, v2, v3, v4, v5, v6] ∧ Dv F H v1 d1 ∧ Dv F H v2 d2 ∧ Dv F H v3 d3 ∧ Dv F H v4 d4 ∧ Dv F H v5 d5 ∧ Dv F H v6 d6 := by
  obtain ⟨v1, r0, rfl, h1, q0⟩ := h.cons_inv
  obtain ⟨v2, r1, rfl, h2, q1⟩ := q0.cons_inv
  obtain ⟨v3, r2, rfl, h3, q2⟩ := q1.cons_inv
  obtain ⟨v4, r3, rfl, h4, q3⟩ := q2.cons_inv
  obtain ⟨v5, r4, rfl, h5, q4⟩ := q3.cons_inv
  obtain ⟨v6, r5, rfl, h6, q5⟩ := q4.cons_inv
  cases q5.nil_inv
  exact ⟨v1, v2, v3, v4, v5, v6, rfl, h1, h2, h3, h4, h5, h6⟩
theorem DvA.seven (h : DvA F H vs [d1, d2, d3, d4, d5, d6, d7]) : ∃ v1 v2 v3 v4 v5 v6 v7, vs = [v1, v2, v3, v4, v5, v6, v7] ∧ Dv F H v1 d1 ∧ Dv F H v2 d2 ∧ Dv F H v3 d3 ∧ Dv F H v4 d4 ∧ Dv F H v5 d5 ∧ Dv F H v6 d6 ∧ Dv F H v7 d7 := by
  obtain ⟨v1, r0, rfl, h1, q0⟩ := h.cons_inv
  obtain ⟨v2, r1, rfl, h2, q1⟩ := q0.cons_inv
  obtain ⟨v3, r2, rfl, h3, q2⟩ := q1.cons_inv
  obtain ⟨v4, r3, rfl, h4, q3⟩ := q2.cons_inv
  obtain ⟨v5, r4, rfl, h5, q4⟩ := q3.cons_inv
  obtain ⟨v6, r5, rfl, h6, q5⟩ := q4.cons_inv
  obtain ⟨v7, r6, rfl, h7, q6⟩ := q5.cons_inv
  cases q6.nil_inv
  exact ⟨v1, v2, v3, v4, v5, v6, v7, rfl, h1, h2, h3, h4, h5, h6, h7⟩
end
structure Tx (K : PySem.W.Frag) (mg : Str → Option Value) : Prop where
  c : Says K
  glo : ∀ x, (He.Fa.glo x).ok K = true → mg x = some (.ref (He.ga K x))
  free : ∀ x, (He.Fa.free x).ok K = true → mg x = none
  int : ∀ x i, (He.Fa.int x i).ok K = true → ∃ t, mg x = some (.int i t)
theorem tx_of {K : PySem.W.Frag} {mg : Str → Option Value} {h : Heap} (X : K.In h) (G : h.Ns mainGlobals mg) (c : Says K) : Tx K mg :=
  ⟨c, fun _ e => He.glo_ok X G e, fun _ e => He.free_ok X G e, fun _ _ e => He.int_ok X G e⟩

abbrev aStore (K : PySem.W.Frag) : Addr := He.ga K "Store"
abbrev aLease (K : PySem.W.Frag) : Addr := He.ga K "Lease"

structure Good (P : Program) (w : World) (K : PySem.W.Frag) (mg : Str → Option Value) (base : Heap) (k : Nat) (x : Str) (ps : List Str) (sp : Sp) : Prop where
  ex : ∃ f fd, FnOk P w K mg base CX0 k f fd ps sp ∧ mg x = some (.ref f) ∧ PySem.W.keepIn K (.ref f) = true ∧ Binds K fd ps []
structure GoodM (P : Program) (w : World) (K : PySem.W.Frag) (mg : Str → Option Value) (base : Heap) (k : Nat) (c : Addr) (m : Str) (ps : List Str) (sp : Sp) : Prop where
  ex : ∃ f fd, FnOk P w K mg base CX0 k f fd ps sp ∧ Cls K c ∧ Meth K c m f ∧ Binds K fd ps []
structure GoodI (P : Program) (w : World) (K : PySem.W.Frag) (mg : Str → Option Value) (base : Heap) (k : Nat) (c : Addr) (x : Str) (ps : List Str) (sp : Sp) : Prop where
  ex : ∃ f fd, FnOk P w K mg base CX0 k f fd ps sp ∧ Mk K c f ∧ mg x = some (.ref c) ∧ Binds K fd ps []

section
variable {P : Program} {w : World} {K : PySem.W.Frag} {mg : Str → Option Value} {base : Heap} {k : Nat} {x : Str} {ps : List Str} {sp : Sp} {N : List Str} {d : He.DefD} {c : Addr}
abbrev cxD (P : Program) (w : World) (K : PySem.W.Frag) (mg : Str → Option Value) (base : Heap) (N : List Str) (d : He.DefD) (f : Addr) (cdv : Value) (A : Around) (outer : List Env) (s : Shared) (H : Hp) (E : XK) : Cx :=
  (cxOf CX0 P w K mg base N d.qual d.scope f cdv A outer s H E).nox
/-- the body's term, the reading of it -/
def BodyOk (P : Program) (w : World) (K : PySem.W.Frag) (mg : Str → Option Value) (base : Heap) (N : List Str) (d : He.DefD) (k : Nat) (sp : Sp) : Prop :=
  ∃ t : TS, (∀ (f : Addr) (cdv : Value) (A : Around) (outer : List Env) (s : Shared) (H : Hp) (E : XK), Room k (A.deeper (envOfC d.qual d.scope s.heap.objs.size f cdv)) → PSs (cxD P w K mg base N d f cdv A outer s H E) d.body t) ∧
    ∀ vs H Q E, sp vs H Q E → t { nx := fun _ H' => Q .non H', rt := Q } (start N vs) H
theorem fn_def {f : Addr} {fd : FuncData} (Fd : FunD K d.name d.qual d.params d.body d.scope [] [] f fd) (S : FnScope N ps d.scope) (len : ∀ vs H Q E, sp vs H Q E → vs.length = ps.length) (hb : BodyOk P w K mg base N d k sp) :
    FnOk P w K mg base CX0 (k + 1) f fd ps sp := by
  obtain ⟨t, h1, h2⟩ := hb
  exact Fd.ok S len fun cdv A outer s H vs Q E hr h => ⟨t, (h1 f cdv A outer s H E hr).nox, h2 vs H Q E h⟩
theorem good_def (Fd : ∃ fd, FunD K d.name d.qual d.params d.body d.scope [] [] (He.fAd K d.at_) fd) (hm : mg x = some (.ref (He.fAd K d.at_)))
    (hb : ∀ (kV doc pm : Value) (an : Option Addr) (cdv ct : Value) (us : List Value), us.length = ps.length → bindArgs (PySem.W.fnOf d.name d.qual d.params d.body d.scope .none kV doc pm an cdv ct) ⟨us, []⟩ = pure (ps.zip us))
    (S : FnScope N ps d.scope) (len : ∀ vs H Q E, sp vs H Q E → vs.length = ps.length) (h : BodyOk P w K mg base N d k sp) : Good P w K mg base (k + 1) x ps sp := by
  obtain ⟨fd, F⟩ := Fd
  exact ⟨_, fd, fn_def F S len h, hm, F.kp, FunD.bindsN F hb⟩
theorem good_meth {m : Str} {C : Str} (cl : Cls K c) (Fd : ∃ fd, FunD K d.name d.qual d.params d.body d.scope [] [] (He.fAd K d.at_) fd) (hm : Meth K c m (He.fAd K d.at_))
    (hb : ∀ (kV doc pm : Value) (an : Option Addr) (cdv ct : Value) (us : List Value), us.length = ps.length → bindArgs (PySem.W.fnOf d.name d.qual d.params d.body d.scope .none kV doc pm an cdv ct) ⟨us, []⟩ = pure (ps.zip us))
    (S : FnScope N ps d.scope) (len : ∀ vs H Q E, sp vs H Q E → vs.length = ps.length) (h : BodyOk P w K mg base N d k sp) : GoodM P w K mg base (k + 1) c m ps sp := by
  obtain ⟨fd, F⟩ := Fd
  exact ⟨_, fd, fn_def F S len h, cl, hm, FunD.bindsN F hb⟩
theorem good_init (Fd : ∃ fd, FunD K d.name d.qual d.params d.body d.scope [] [] (He.fAd K d.at_) fd) (hm : Mk K c (He.fAd K d.at_)) (hc : mg x = some (.ref c))
    (hb : ∀ (kV doc pm : Value) (an : Option Addr) (cdv ct : Value) (us : List Value), us.length = ps.length → bindArgs (PySem.W.fnOf d.name d.qual d.params d.body d.scope .none kV doc pm an cdv ct) ⟨us, []⟩ = pure (ps.zip us))
    (S : FnScope N ps d.scope) (len : ∀ vs H Q E, sp vs H Q E → vs.length = ps.length) (h : BodyOk P w K mg base N d k sp) : GoodI P w K mg base (k + 1) c x ps sp := by
  obtain ⟨fd, F⟩ := Fd
  exact ⟨_, fd, fn_def F S len h, hm, hc, FunD.bindsN F hb⟩
end
section
variable {ι : Type} {Pre : Fr → Hp → ι → Prop} {A : ι → List D} {n : Nat}
theorem len_G {R : ι → D} (h : ∀ x, (A x).length = n) : ∀ vs H Q E, SpG Pre A R vs H Q E → vs.length = n := fun vs H Q E ⟨F, x, _, hv, _⟩ => by rw [hv.len, h x]
theorem len_C {C : ι → D → Prop} (h : ∀ x, (A x).length = n) : ∀ vs H Q E, SpC Pre A C vs H Q E → vs.length = n := fun vs H Q E ⟨F, x, _, hv, _⟩ => by rw [hv.len, h x]
theorem len_N {R : ι → List D} (h : ∀ x, (A x).length = n) : ∀ vs H Q E, SpN Pre A R vs H Q E → vs.length = n := fun vs H Q E ⟨F, x, _, hv, _⟩ => by rw [hv.len, h x]
end
section
variable {X : Cx} {k : Nat} {x m : Str} {ps : List Str} {sp : Sp} {e o : Expr} {es : List Expr} {t : TA} {ta : TE} {pos p apos : Pos} {c : Addr}
theorem pe_cG (G : Good X.prog X.w X.K X.mg X.base k x ps sp) (hr : Room k X.A) (hg : Gl X x) (ha : PA X (e :: es) t) (hdb : (x == ("__debug__" : Str)) = false := by decide)
    (he : starEach (e :: es) X.env = (false, eval e X.env) :: starEach es X.env := by rfl) (hpl : (backTo pos (starEach es X.env)).any (·.1) = false := by rfl) : PE X (.Call (.Name x p) (e :: es) [] pos) (tCall sp [] E0 t) := by
  obtain ⟨f, fd, F, hm, hk, hb⟩ := G.ex
  exact pe_call F hr hg hm hk hb .nil pass0 ha hdb he hpl
theorem pe_mG {pl : Sem Bool} (G : GoodM X.prog X.w X.K X.mg X.base k c m ps sp) (hr : Room k X.A) (ho : PE X o ta) (ha : PA X (e :: es) t)
    (hst : starEach (e :: es) X.env = (false, eval e X.env) :: starEach es X.env := by rfl) (hpl : (backTo pos (starEach es X.env)).any (·.1) = false := by rfl)
    (ht : eval (.Call (.Attribute o m apos) (e :: es) [] pos) X.env = (do
      let ov ← eval o X.env
      standAt apos.atName
      let (f, first) ← holding [ov] (getMethod ov m pl)
      callWith pos f first (backTo pos (starEach (e :: es) X.env)) (backToKw pos (keywordEach [] X.env))) := by rfl) : PE X (.Call (.Attribute o m apos) (e :: es) [] pos) (tMeth c m sp [] E0 ta t) := by
  obtain ⟨f, fd, F, cl, hm, hb⟩ := G.ex
  exact pe_meth ho cl hm F hr hb .nil pass0 ha hst hpl ht
theorem pe_m0G {pl : Sem Bool} (G : GoodM X.prog X.w X.K X.mg X.base k c m ps sp) (hr : Room k X.A) (ho : PE X o ta)
    (ht : eval (.Call (.Attribute o m apos) [] [] pos) X.env = (do
      let ov ← eval o X.env
      standAt apos.atName
      let (f, first) ← holding [ov] (getMethod ov m pl)
      callWith pos f first (backTo pos (starEach [] X.env)) (backToKw pos (keywordEach [] X.env))) := by rfl) : PE X (.Call (.Attribute o m apos) [] [] pos) (tMeth c m sp [] E0 ta tNil) := by
  obtain ⟨f, fd, F, cl, hm, hb⟩ := G.ex
  exact pe_meth0 ho cl hm F hr hb .nil pass0 ht
theorem pe_mkG (G : GoodI X.prog X.w X.K X.mg X.base k c x ps sp) (hr : Room (k + 1) X.A) (hg : Gl X x) (ha : PA X (e :: es) t) (hdb : (x == ("__debug__" : Str)) = false := by decide)
    (he : starEach (e :: es) X.env = (false, eval e X.env) :: starEach es X.env := by rfl) (hpl : (backTo pos (starEach es X.env)).any (·.1) = false := by rfl) : PE X (.Call (.Name x p) (e :: es) [] pos) (tMake c sp [] E0 t) := by
  obtain ⟨f, fd, F, hm, hc, hb⟩ := G.ex
  exact pe_make hm F hr hg hc hb .nil pass0 ha hdb he hpl
theorem pt_tru {a : Expr} (ha : PE X a ta) (he : ∀ whole, isTrue a X.env whole = (do let v ← whole; standAt a.pos; holding [v] (truthy v)) := by intro _; rfl) : PT X a (tTru X.K ta) := pt_truth ha he
end
section
variable {X : Cx} {K : PySem.W.Frag} {e o l value a b : Expr} {es : List Expr} {ta te tl tv to : TE} {t : TA} {tg : Expr} {pos p pos' apos cpos tpos : Pos} {f : Str} {n k : Nat}
theorem k_ix_tup (hK : X.K = K) : IxR X (rIxT K) := by
  subst hK
  exact ix_tup
theorem k_ix_list (hK : X.K = K) : IxR X (rIxL K) := by
  subst hK
  exact ix_list
theorem k_ix_seq (hK : X.K = K) : IxR X (rIx K) := by
  subst hK
  exact ix_seq
theorem k_sl_tup (hK : X.K = K) : SlR X (rSlT K) := by
  subst hK
  exact sl_tup
theorem k_sl_list (hK : X.K = K) : SlR X (rSlL K) := by
  subst hK
  exact sl_list
theorem k_eqD (hK : X.K = K) (hu : X.A.units + 64 < cLine) : OpR X (compareOp .Eq) (rEqD K) := by
  subst hK
  exact op_eqD hu
theorem k_neD (hK : X.K = K) (hu : X.A.units + 64 < cLine) : OpR X (compareOp .NotEq) (rNeD K) := by
  subst hK
  exact op_neD hu
theorem k_inD (hK : X.K = K) (hu : X.A.units + 65 < cLine) : OpR X (compareOp .In) (rInD K) := by
  subst hK
  exact op_inD hu
theorem k_in_seq (hK : X.K = K) : OpR X (compareOp .In) (rIn K false) := by
  subst hK
  exact op_in_seq
theorem k_notIn_seq (hK : X.K = K) : OpR X (compareOp .NotIn) (rIn K true) := by
  subst hK
  exact op_notIn_seq
theorem k_len (hK : X.K = K) : CallR X (.builtin "len") (rLen K) := by
  subst hK
  exact call_len'
theorem k_list (hK : X.K = K) : CallR X (.type "list") (rListOf K) := by
  subst hK
  exact call_list'
theorem k_tuple (hK : X.K = K) : CallR X (.type "tuple") (rTupOf K) := by
  subst hK
  exact call_tuple'
theorem k_sum (hK : X.K = K) (hc : X.calm = true) : CallR X (.builtin "sum") (rSum K) := by
  subst hK
  exact cr_sum hc
theorem k_sorted (hK : X.K = K) : CallR X (.builtin "sorted") (rSortedS K) := by
  subst hK
  exact cr_sortedS
theorem k_isi (hK : X.K = K) : CallR X (.builtin "isinstance") (rIsi K) := by
  subst hK
  exact call_isi
theorem k_isiT (hK : X.K = K) : CallR X (.builtin "isinstance") (rIsiT K) := by
  subst hK
  exact call_isiT
theorem k_pg_tup {ts : TGs} (hK : X.K = K) (hc : X.calm = true) (h : PGs X es ts) (hn : (assignEach es X.env).length = n := by rfl) (hst : List.findIdx? (fun x => x.1) (assignEach es X.env) = none := by rfl) : PG X (.Tuple es k pos) (gTup K n ts) := by
  subst hK
  exact pg_tup hc h hn hst
theorem k_pi_list (hK : X.K = K) (hl : PE X l tl) : PI X tg l (iList K tl) := by
  subst hK
  exact pi_list hl
theorem k_pi_tup (hK : X.K = K) (hl : PE X l tl) : PI X tg l (iTup K tl) := by
  subst hK
  exact pi_tup hl
theorem k_pi_enum {elts : List Expr} {kk : Nat} (hK : X.K = K) (hg : Gl X "enumerate") (hm : X.mg "enumerate" = none) (ha : PA X [e] t) (hs : starEach [e] X.env = [(false, eval e X.env)] := by rfl) :
    PI X (.Tuple elts kk tpos) (.Call (.Name "enumerate" p) [e] [] pos) (iEnum K t) := by
  subst hK
  exact pi_enum hg hm ha hs
theorem k_pi_zip {e2 : Expr} {elts : List Expr} {kk : Nat} (hK : X.K = K) (hg : Gl X "zip") (hm : X.mg "zip" = none) (ha : PA X [e, e2] t)
    (hs : starEach [e, e2] X.env = (false, eval e X.env) :: starEach [e2] X.env := by rfl) (hpl : (backTo pos (starEach [e2] X.env)).any (·.1) = false := by rfl) :
    PI X (.Tuple elts kk tpos) (.Call (.Name "zip" p) [e, e2] [] pos) (iZip K t) := by
  subst hK
  exact pi_zip hg hm ha hs hpl
theorem k_fld (hK : X.K = K) (he : PE X e ta) (hb : attributeBase e f X.env (eval e X.env) = eval e X.env) : PE X (.Attribute e f pos) (tFld K ta f) := by
  subst hK
  exact pe_fld he hb
theorem k_sfld (hK : X.K = K) (ha : PE X o ta) (hv : PE X value tv) (hs : swapsWith value (some (.Attribute o f pos')) pos.line X.env = pure false) : PS X (.Assign [.Attribute o f pos'] value pos) (sFld K ta tv f) := by
  subst hK
  exact ps_fld ha hv hs
theorem k_tru (hK : X.K = K) (ha : PE X a ta) (he : ∀ whole, isTrue a X.env whole = (do let v ← whole; standAt a.pos; holding [v] (truthy v)) := by intro _; rfl) : PT X a (tTru K ta) := by
  subst hK
  exact pt_tru ha he
theorem k_bm {T id : String} {name : Str} {r : V → List V → Hp → VK → Prop} (hK : X.K = K) (pa : PlainAttrs T) (slot : Slot T name id) (hty : typeOf (.builtin id) = pure (.type "method_descriptor")) (hm : MtR X id r) (ho : PE X o to) (ha : PA X (e :: es) t)
    (hbase : attributeBase o name X.env (eval o X.env) = eval o X.env := by rfl)
    (hfew : ((backTo cpos (starEach (e :: es) X.env)).all (fun x => !x.1) && (backToKw cpos (keywordEach [] X.env)).all (fun x => x.1.isSome)
      && decide ((e :: es).length + ([] : List Keyword).length + (if ([] : List Keyword).isEmpty then 0 else 1) < 30)) = true := by rfl)
    (hline : (apos.endLine == cpos.line) = true := by rfl) (hs : starEach (e :: es) X.env = (false, eval e X.env) :: starEach es X.env := by rfl) (hplain : (backTo cpos (starEach es X.env)).any (·.1) = false := by rfl) :
    PE X (.Call (.Attribute o name apos) (e :: es) [] cpos) (tBM K T r to t) := by
  subst hK
  exact pe_bm pa slot hty hm ho ha hbase hfew hline hs hplain
end
end Le

namespace Le
open PySem PySem.Spec PyProof.Rows L2

theorem ltS_irrefl (x : Str) : ltS x x = false := decide_eq_false (List.lt_irrefl x.cps.toList)
theorem ltS_trans {x y z : Str} (a : ltS x y = true) (b : ltS y z = true) : ltS x z = true :=
  decide_eq_true (List.lt_trans (of_decide_eq_true a) (of_decide_eq_true b))
theorem leS_trans {x y z : Str} (a : leS x y = true) (b : leS y z = true) : leS x z = true := by
  unfold leS ltS at *
  simp only [Bool.not_eq_true', decide_eq_false_iff_not, List.not_lt] at *
  exact List.le_trans a b
theorem leS_refl (x : Str) : leS x x = true := by
  unfold leS
  rw [ltS_irrefl]
  rfl
theorem leS_antisymm {x y : Str} (a : leS x y = true) (b : leS y x = true) : x = y := by
  unfold leS ltS at *
  simp only [Bool.not_eq_true', decide_eq_false_iff_not, List.not_lt] at *
  have z := List.le_antisymm a b
  cases x
  cases y
  exact congrArg Str.mk (Array.toList_inj.mp z)
theorem leS_of_ltS {x y : Str} (a : ltS x y = true) : leS x y = true := by
  unfold leS
  cases h : ltS y x with
  | false => rfl
  | true =>
    have z := ltS_trans a h
    rw [ltS_irrefl] at z
    cases z
theorem ltS_of {x y : Str} (a : leS x y = true) (h : x ≠ y) : ltS x y = true := by
  cases q : ltS x y with
  | true => rfl
  | false => exact absurd (leS_antisymm a (by unfold leS; rw [q]; rfl)) h
theorem ltS_leS {x y z : Str} (a : ltS x y = true) (b : leS y z = true) : ltS x z = true := by
  refine ltS_of (leS_trans (leS_of_ltS a) b) fun e => ?_
  subst e
  unfold leS at b
  rw [a] at b
  cases b

/-- all keys there are, in ascending order -/
def keys : List Str := ["a", "aa", "az", "b", "ba", "bz", "c", "ca", "cz", "d", "da", "dz"]
theorem keys_up : keys.Pairwise (fun x y => ltS x y = true) := by decide +kernel
theorem keys_ok : keys.all PySem.PyData.strOk = true := by decide +kernel
theorem key_ok {k : Str} (h : k ∈ keys) : PySem.PyData.strOk k = true := List.all_eq_true.mp keys_ok k h

/-- two ascending lists of the same items are one -/
theorem up_unique : ∀ {l m : List Str}, l.Pairwise (fun x y => ltS x y = true) → m.Pairwise (fun x y => ltS x y = true) → (∀ x, x ∈ l ↔ x ∈ m) → l = m
  | [], [], _, _, _ => rfl
  | [], b :: m, _, _, h => by
    have z := (h b).mpr (List.mem_cons.mpr (Or.inl rfl))
    cases z
  | a :: l, [], _, _, h => by
    have z := (h a).mp (List.mem_cons.mpr (Or.inl rfl))
    cases z
  | a :: l, b :: m, hl, hm, h => by
    obtain ⟨hl1, hl2⟩ := List.pairwise_cons.mp hl
    obtain ⟨hm1, hm2⟩ := List.pairwise_cons.mp hm
    have e : a = b := by
      rcases List.mem_cons.mp ((h a).mp (List.mem_cons.mpr (Or.inl rfl))) with q | q
      · exact q
      · rcases List.mem_cons.mp ((h b).mpr (List.mem_cons.mpr (Or.inl rfl))) with r | r
        · exact r.symm
        · have z := ltS_trans (hl1 b r) (hm1 a q)
          rw [ltS_irrefl] at z
          cases z
    subst e
    refine congrArg _ (up_unique hl2 hm2 fun x => ⟨fun hx => ?_, fun hx => ?_⟩)
    · rcases List.mem_cons.mp ((h x).mp (List.mem_cons.mpr (Or.inr hx))) with q | q
      · subst q
        have z := hl1 x hx
        rw [ltS_irrefl] at z
        cases z
      · exact q
    · rcases List.mem_cons.mp ((h x).mpr (List.mem_cons.mpr (Or.inr hx))) with q | q
      · subst q
        have z := hm1 x hx
        rw [ltS_irrefl] at z
        cases z
      · exact q
theorem rising_up : ∀ (r : List Str) (p : Str), risingS p r = true → (p :: r).Nodup → (p :: r).Pairwise (fun x y => ltS x y = true)
  | [], p, _, _ => List.pairwise_singleton _ _
  | x :: r, p, h, nd => by
    have h2 : (!ltCps x.cps.toList p.cps.toList && risingS x r) = true := h
    obtain ⟨h3, h4⟩ := Bool.and_eq_true_iff.mp h2
    obtain ⟨n1, n2⟩ := List.nodup_cons.mp nd
    have ih := rising_up r x h4 n2
    have lt : ltS p x = true := by
      refine ltS_of ?_ fun e => n1 (by rw [e]; exact List.mem_cons.mpr (Or.inl rfl))
      unfold leS ltS
      rw [ltCps_eq] at h3
      exact h3
    refine List.pairwise_cons.mpr ⟨fun y hy => ?_, ih⟩
    rcases List.mem_cons.mp hy with rfl | hy
    · exact lt
    · exact ltS_trans lt ((List.pairwise_cons.mp ih).1 y hy)
theorem sorted_up {l : List Str} (h : sortedS l = true) (nd : l.Nodup) : l.Pairwise (fun x y => ltS x y = true) := by
  cases l with
  | nil => exact List.Pairwise.nil
  | cons p r => exact rising_up r p h nd
/-- sorted of a few keys -/
theorem sorted_keys {ys xs : List Str} (hp : ys.Perm xs) (hs : sortedS ys = true) (nd : xs.Nodup) (hk : ∀ k, k ∈ xs → k ∈ keys) : ys = keys.filter (fun k => decide (k ∈ xs)) := by
  refine up_unique (sorted_up hs (hp.nodup_iff.mpr nd)) (keys_up.sublist List.filter_sublist) fun x => ?_
  rw [hp.mem_iff, List.mem_filter]
  exact ⟨fun h => ⟨hk x h, decide_eq_true h⟩, fun h => of_decide_eq_true h.2⟩

abbrev Cov := Str × Str
abbrev Wr := Str × Option Int
abbrev Gr := List Wr
abbrev Cm := Int × Gr
def inC (c : Cov) (k : Str) : Bool := leS c.1 k && leS k c.2
def incl (o i : Cov) : Bool := if ltS i.2 i.1 = true then true else (inC o i.1 && inC o i.2)
def within (o i : Cov) : Bool := if ltS i.2 i.1 = true then true else (leS o.1 i.1 && leS i.2 o.2)
def tch (g : Gr) (c : Cov) : Bool := g.any fun w => inC c w.1
theorem incl_within {o i : Cov} : incl o i = within o i := by
  unfold incl within
  cases h : ltS i.2 i.1 with
  | true => rfl
  | false =>
    have le : leS i.1 i.2 = true := by
      unfold leS
      rw [h]
      rfl
    show (inC o i.1 && inC o i.2) = (leS o.1 i.1 && leS i.2 o.2)
    unfold inC
    cases a : leS o.1 i.1 with
    | false => rfl
    | true =>
      cases b : leS i.2 o.2 with
      | false => cases leS i.1 o.2 <;> cases leS o.1 i.2 <;> rfl
      | true => rw [leS_trans a le, leS_trans le b]; rfl
theorem within_in {o i : Cov} {k : Str} (h : within o i = true) (hk : inC i k = true) : inC o k = true := by
  unfold within at h
  unfold inC at hk ⊢
  obtain ⟨k1, k2⟩ := Bool.and_eq_true_iff.mp hk
  split at h
  · rename_i hl
    have z := ltS_leS hl (leS_trans k1 k2)
    rw [ltS_irrefl] at z
    cases z
  · obtain ⟨h1, h2⟩ := Bool.and_eq_true_iff.mp h
    rw [leS_trans h1 k1, leS_trans k2 h2]
    rfl
theorem within_tch {o i : Cov} {g : Gr} (h : within o i = true) (ht : tch g i = true) : tch g o = true := by
  unfold tch at ht ⊢
  obtain ⟨w, hw, hk⟩ := List.any_eq_true.mp ht
  exact List.any_eq_true.mpr ⟨w, hw, within_in h hk⟩

inductive Qu where
  | get (k : Str) | cnt (c : Cov) | sum (c : Cov) | lst (c : Cov) | lea (c : Cov)
def Qu.cov : Qu → Cov
  | .get k => (k, k)
  | .cnt c => c
  | .sum c => c
  | .lst c => c
  | .lea c => c
def Qu.word : Qu → Str
  | .get _ => "get"
  | .cnt _ => "count"
  | .sum _ => "sum"
  | .lst _ => "list"
  | .lea _ => "least"
/-- a lease as told -/
structure Ls where
  host : Int
  inc : Int
  req : Int
  cov : Cov
  til : Int
  mom : Int
  tim : Int
  ret : Bool
inductive Sm where
  | lease (i : Int) | at (s m : Int)
inductive Pr where
  | any | newest | age (t : Int)

abbrev oD : Option Int → D
  | none => .non
  | some i => .int i
def oV : Option Int → V
  | none => .non
  | some i => .int i
abbrev kC (c : Cov) : D := .tup [.str c.1, .str c.2]
abbrev kW (w : Wr) : D := .tup [.str w.1, oD w.2]
abbrev kG (g : Gr) : D := .tup (g.map kW)
abbrev kCm (c : Cm) : D := .tup [.int c.1, kG c.2]
abbrev kLg (l : List Cm) : D := .lst (l.map kCm)
abbrev kQ : Qu → D
  | .get k => .tup [.str "get", .str k]
  | .cnt c => .tup [.str "count", .str c.1, .str c.2]
  | .sum c => .tup [.str "sum", .str c.1, .str c.2]
  | .lst c => .tup [.str "list", .str c.1, .str c.2]
  | .lea c => .tup [.str "least", .str c.1, .str c.2]
abbrev kQs (l : List Qu) : D := .lst (l.map kQ)
abbrev kLs (l : Ls) : D := .tup [.int l.host, .int l.inc, .int l.req, kC l.cov, .int l.til, .int l.mom, .int l.tim, .bl l.ret]
abbrev kLss (l : List Ls) : D := .lst (l.map kLs)
abbrev kS : Sm → D
  | .lease i => .tup [.str "lease", .int i]
  | .at s m => .tup [.str "at", .int s, .int m]
abbrev kSs (l : List Sm) : D := .lst (l.map kS)
abbrev kP : Pr → D
  | .any => .tup [.str "any"]
  | .newest => .tup [.str "newest"]
  | .age t => .tup [.str "age", .int t]
abbrev kRow (r : Str × Int) : D := .tup [.str r.1, .int r.2]
abbrev kRows (l : List (Str × Int)) : D := .lst (l.map kRow)
structure Rd where
  num : Int
  ses : Str
  qs : List Qu
  pr : Pr
structure An where
  found : List D
  mom : Int
  ev : List Sm
abbrev kRd (r : Rd) : D := .tup [.int r.num, .str r.ses, kQs r.qs, kP r.pr]
abbrev kAn (a : An) : D := .tup [.lst a.found, .int a.mom, kSs a.ev]
theorem imm_oD (o : Option Int) : (oD o).imm = true := by cases o <;> rfl
theorem imm_kC (c : Cov) : (kC c).imm = true := rfl
theorem imm_kW (w : Wr) : (kW w).imm = true := by
  show (true && ((oD w.2).imm && true)) = true
  rw [imm_oD]
  rfl
theorem imm_kG (g : Gr) : (kG g).imm = true := immA_map imm_kW g
theorem imm_kCm (c : Cm) : (kCm c).imm = true := by
  show (true && ((kG c.2).imm && true)) = true
  rw [imm_kG]
  rfl
theorem imm_kQ (q : Qu) : (kQ q).imm = true := by cases q <;> rfl
theorem imm_kLs (l : Ls) : (kLs l).imm = true := rfl
theorem imm_kS (s : Sm) : (kS s).imm = true := by cases s <;> rfl
theorem imm_kP (p : Pr) : (kP p).imm = true := by cases p <;> rfl
theorem imm_kRow (r : Str × Int) : (kRow r).imm = true := rfl

abbrev Rec := List (Key × V)
abbrev kR (r : Rec) : D := .dic r
def kst : Key → Str
  | .inr x => x
  | .inl _ => ""
def isO : V → Prop := fun v => v = .non ∨ ∃ i, v = .int i
structure RecOk (r : Rec) : Prop where
  nd : (r.map (·.1)).Nodup
  ks : ∀ p, p ∈ r → (∃ k, p.1 = Sum.inr k ∧ k ∈ keys) ∧ isO p.2
/-- no key without a value -/
def Full (r : Rec) : Prop := ∀ p, p ∈ r → p.2 ≠ .non
def lkV : Option V → Option Int
  | some (.int i) => some i
  | _ => none
def lk (r : Rec) (k : Str) : Option Int := lkV (valV r (Sum.inr k))
theorem valV_mem {r : Rec} {k : Key} {v : V} (h : valV r k = some v) : (k, v) ∈ r := by
  unfold valV at h
  cases q : r.find? (fun kv => decide (kv.1 = k)) with
  | none => rw [q] at h; cases h
  | some p =>
    rw [q] at h
    have e : p.2 = v := Option.some.inj h
    have e1 : p.1 = k := of_decide_eq_true (List.find?_some (p := fun kv : Key × V => decide (kv.1 = k)) q)
    have m := List.mem_of_find?_eq_some q
    rw [← e, ← e1]
    exact m
theorem valV_drop (k j : Key) : ∀ r : Rec, valV (dropK r k) j = if j = k then none else valV r j
  | [] => by
    show none = _
    split <;> rfl
  | p :: r => by
    by_cases e : p.1 = k
    · rw [dropK_pos e, valV_drop k j r]
      by_cases q : j = k
      · rw [if_pos q, if_pos q]
      · rw [if_neg q, if_neg q, valV_neg fun z => q (z.symm.trans e)]
    · rw [dropK_neg e]
      by_cases q : p.1 = j
      · rw [valV_pos q, valV_pos q, if_neg fun z => e (q.trans z)]
      · rw [valV_neg q, valV_neg q, valV_drop k j r]
theorem mem_putK {r : Rec} {k : Key} {v : V} {p : Key × V} (h : p ∈ putK r k v) : p ∈ r ∨ p = (k, v) := by
  unfold putK at h
  split at h
  · obtain ⟨q, hq, e⟩ := List.mem_map.mp h
    by_cases z : q.1 = k
    · rw [if_pos z] at e
      rw [z] at e
      exact Or.inr e.symm
    · rw [if_neg z] at e
      rw [← e]
      exact Or.inl hq
  · rcases List.mem_append.mp h with q | q
    · exact Or.inl q
    · exact Or.inr (List.mem_singleton.mp q)
theorem nd_put {r : Rec} (k : Key) (v : V) (hn : (r.map (·.1)).Nodup) : ((putK r k v).map (·.1)).Nodup := by
  cases h : valV r k with
  | none => exact nd_putK v hn h
  | some w =>
    unfold putK
    rw [valV_any, h]
    show ((r.map fun kv => if kv.1 = k then (kv.1, v) else kv).map (·.1)).Nodup
    rw [List.map_map]
    have e : ((fun kv : Key × V => kv.1) ∘ fun kv => if kv.1 = k then (kv.1, v) else kv) = fun kv : Key × V => kv.1 := by
      funext kv
      show (if kv.1 = k then (kv.1, v) else kv).1 = kv.1
      split <;> rfl
    rw [e]
    exact hn
theorem RecOk.nil : RecOk [] := ⟨List.nodup_nil, fun p h => by cases h⟩
theorem RecOk.put {r : Rec} (h : RecOk r) {k : Str} (hk : k ∈ keys) {v : V} (hv : isO v) : RecOk (putK r (Sum.inr k) v) :=
  ⟨nd_put _ _ h.nd, fun p hp => by
    rcases mem_putK hp with q | q
    · exact h.ks p q
    · rw [q]
      exact ⟨⟨k, rfl, hk⟩, hv⟩⟩
theorem RecOk.drop {r : Rec} (h : RecOk r) (k : Key) : RecOk (dropK r k) := ⟨nd_dropK h.nd, fun p hp => h.ks p (dropK_mem hp)⟩
theorem Full.put {r : Rec} (h : Full r) (k : Key) {v : V} (hv : v ≠ .non) : Full (putK r k v) := fun p hp => by
  rcases mem_putK hp with q | q
  · exact h p q
  · rw [q]
    exact hv
theorem Full.drop {r : Rec} (h : Full r) (k : Key) : Full (dropK r k) := fun p hp => h p (dropK_mem hp)
theorem lk_put (r : Rec) (k j : Str) (v : V) : lk (putK r (Sum.inr k) v) j = if j = k then lkV (some v) else lk r j := by
  unfold lk
  rw [valV_put]
  by_cases e : j = k
  · rw [if_pos e, if_pos (congrArg _ e)]
  · rw [if_neg e, if_neg fun z => e (Sum.inr.inj z)]
theorem lk_drop (r : Rec) (k j : Str) : lk (dropK r (Sum.inr k)) j = if j = k then none else lk r j := by
  unfold lk
  rw [valV_drop]
  by_cases e : j = k
  · rw [if_pos e, if_pos (congrArg _ e)]
    rfl
  · rw [if_neg e, if_neg fun z => e (Sum.inr.inj z)]
theorem len_sub {α : Type} [DecidableEq α] : ∀ {ks m : List α}, ks.Nodup → (∀ k, k ∈ ks → k ∈ m) → ks.length ≤ m.length
  | [], _, _, _ => Nat.zero_le _
  | k :: ks, m, nd, h => by
    obtain ⟨n1, n2⟩ := List.nodup_cons.mp nd
    have hk : k ∈ m := h k (List.mem_cons.mpr (Or.inl rfl))
    have ih := len_sub (m := m.erase k) n2 fun j hj => by
      have ne : j ≠ k := fun e => n1 (by rw [← e]; exact hj)
      exact (List.mem_erase_of_ne ne).mpr (h j (List.mem_cons.mpr (Or.inr hj)))
    have l := List.length_erase_of_mem hk
    have pos : 0 < m.length := List.length_pos_of_mem hk
    rw [List.length_cons]
    omega
theorem RecOk.small {r : Rec} (h : RecOk r) : r.length < 64 := by
  have z := len_sub (m := keys.map (Sum.inr : Str → Key)) h.nd fun k hk => by
    obtain ⟨p, hp, rfl⟩ := List.mem_map.mp hk
    obtain ⟨⟨k, e, m⟩, _⟩ := h.ks p hp
    rw [e]
    exact List.mem_map.mpr ⟨k, m, rfl⟩
  rw [List.length_map, List.length_map] at z
  have e : keys.length = 12 := rfl
  omega
/-- the texts of its keys -/
def ktxt (r : Rec) : List Str := r.map fun p => kst p.1
theorem ktxt_keys {r : Rec} (h : RecOk r) : r.map (fun kv => kV kv.1) = (ktxt r).map V.str := by
  unfold ktxt
  rw [List.map_map]
  refine List.map_congr_left fun p hp => ?_
  obtain ⟨⟨k, e, m⟩, _⟩ := h.ks p hp
  show kV p.1 = V.str (kst p.1)
  rw [e]
  rfl
theorem ktxt_mem {r : Rec} (h : RecOk r) {k : Str} : k ∈ ktxt r ↔ (valV r (Sum.inr k)).isSome = true := by
  rw [← valV_any, List.any_eq_true]
  constructor
  · intro hk
    obtain ⟨p, hp, e⟩ := List.mem_map.mp hk
    obtain ⟨⟨j, ej, m⟩, _⟩ := h.ks p hp
    refine ⟨p, hp, decide_eq_true ?_⟩
    rw [ej] at e ⊢
    exact congrArg _ e
  · rintro ⟨p, hp, e⟩
    refine List.mem_map.mpr ⟨p, hp, ?_⟩
    rw [of_decide_eq_true e]
    rfl
theorem nodup_of_map {α β : Type} {f : α → β} : ∀ {l : List α}, (l.map f).Nodup → l.Nodup
  | [], _ => List.nodup_nil
  | a :: l, h => by
    obtain ⟨h1, h2⟩ := List.nodup_cons.mp h
    exact List.nodup_cons.mpr ⟨fun m => h1 (List.mem_map.mpr ⟨a, m, rfl⟩), nodup_of_map h2⟩
theorem fmap_congr {α β : Type} {f g : α → Option β} : ∀ {l : List α}, (∀ x, x ∈ l → f x = g x) → l.filterMap f = l.filterMap g
  | [], _ => rfl
  | a :: l, h => by
    rw [List.filterMap_cons, List.filterMap_cons, h a (List.mem_cons.mpr (Or.inl rfl)), fmap_congr fun x hx => h x (List.mem_cons.mpr (Or.inr hx))]
theorem ktxt_nd {r : Rec} (h : RecOk r) : (ktxt r).Nodup := by
  have z := h.nd
  have e : r.map (·.1) = (ktxt r).map (Sum.inr : Str → Key) := by
    unfold ktxt
    rw [List.map_map]
    refine List.map_congr_left fun p hp => ?_
    obtain ⟨⟨k, e, m⟩, _⟩ := h.ks p hp
    show p.1 = Sum.inr (kst p.1)
    rw [e]
    rfl
  rw [e] at z
  exact nodup_of_map z
theorem ktxt_in {r : Rec} (h : RecOk r) {k : Str} (hk : k ∈ ktxt r) : k ∈ keys := by
  obtain ⟨p, hp, e⟩ := List.mem_map.mp hk
  obtain ⟨⟨j, ej, m⟩, _⟩ := h.ks p hp
  rw [ej] at e
  have e2 : j = k := e
  rw [← e2]
  exact m

/-- the records of a cover, in order -/
def rowsF (f : Str → Option Int) (c : Cov) : List (Str × Int) := keys.filterMap fun k => if inC c k = true then (f k).map fun i => (k, i) else none
def leastF : List (Str × Int) → Option (Str × Int) → Option (Str × Int)
  | [], b => b
  | r :: rs, none => leastF rs (some r)
  | r :: rs, some b => leastF rs (if r.2 < b.2 then some r else some b)
def oRow : Option (Str × Int) → D
  | none => .non
  | some r => kRow r
def askF (f : Str → Option Int) : Qu → D
  | .get k => oD (f k)
  | .cnt c => .int ((rowsF f c).length : Nat)
  | .sum c => .int ((rowsF f c).map (·.2)).sum
  | .lst c => .tup ((rowsF f c).map kRow)
  | .lea c => oRow (leastF (rowsF f c) none)
def apF (f : Str → Option Int) (g : Gr) : Str → Option Int := g.foldl (fun f w => fun k => if k = w.1 then w.2 else f k) f
def atF (l : List Cm) (n : Nat) : Str → Option Int := (l.take n).foldl (fun f c => apF f c.2) fun _ => none
def resF (l : List Cm) (qs : List Qu) (n : Nat) : List D := qs.map (askF (atF l n))
/-- the dicts, write by write -/
def apR (r : Rec) (g : Gr) : Rec := g.foldl (fun r w => match w.2 with
  | some i => putK r (Sum.inr w.1) (.int i)
  | none => if (valV r (Sum.inr w.1)).isSome = true then dropK r (Sum.inr w.1) else r) r
def atR (l : List Cm) (n : Nat) : Rec := (l.take n).foldl (fun r c => apR r c.2) []
def apW (r : Rec) (g : Gr) : Rec := g.foldl (fun r w => putK r (Sum.inr w.1) (oV w.2)) r
def atW (l : List Cm) (n : Nat) : Rec := (l.take n).foldl (fun r c => apW r c.2) []
def GOk (g : Gr) : Prop := ∀ w, w ∈ g → w.1 ∈ keys
def LOk (l : List Cm) : Prop := ∀ c, c ∈ l → GOk c.2
theorem isO_oV (o : Option Int) : isO (oV o) := by
  cases o with
  | none => exact Or.inl rfl
  | some i => exact Or.inr ⟨i, rfl⟩
theorem lkV_oV (o : Option Int) : lkV (some (oV o)) = o := by cases o <;> rfl
theorem apR_ok : ∀ {g : Gr} {r : Rec}, GOk g → RecOk r → Full r → RecOk (apR r g) ∧ Full (apR r g) ∧ lk (apR r g) = apF (lk r) g
  | [], r, _, h, hf => ⟨h, hf, rfl⟩
  | w :: g, r, hg, h, hf => by
    have hw : w.1 ∈ keys := hg w (List.mem_cons.mpr (Or.inl rfl))
    have hg' : GOk g := fun v hv => hg v (List.mem_cons.mpr (Or.inr hv))
    unfold apR apF
    rw [List.foldl_cons, List.foldl_cons]
    cases e : w.2 with
    | some i =>
      have z := apR_ok hg' (h.put hw (v := .int i) (Or.inr ⟨i, rfl⟩)) (hf.put (Sum.inr w.1) (v := .int i) (by intro q; cases q))
      refine ⟨z.1, z.2.1, ?_⟩
      refine Eq.trans z.2.2 ?_
      refine congrArg (fun f => apF f g) ?_
      funext k
      rw [lk_put]
      rfl
    | none =>
      by_cases q : (valV r (Sum.inr w.1)).isSome = true
      · rw [if_pos q]
        have z := apR_ok hg' (h.drop (Sum.inr w.1)) (hf.drop (Sum.inr w.1))
        refine ⟨z.1, z.2.1, ?_⟩
        refine Eq.trans z.2.2 ?_
        refine congrArg (fun f => apF f g) ?_
        funext k
        rw [lk_drop]
      · rw [if_neg q]
        have z := apR_ok hg' h hf
        refine ⟨z.1, z.2.1, ?_⟩
        refine Eq.trans z.2.2 ?_
        refine congrArg (fun f => apF f g) ?_
        funext k
        by_cases ek : k = w.1
        · rw [if_pos ek, ek]
          unfold lk
          cases o : valV r (Sum.inr w.1) with
          | none => rfl
          | some v => rw [o] at q; exact absurd rfl q
        · rw [if_neg ek]
theorem apW_ok : ∀ {g : Gr} {r : Rec}, GOk g → RecOk r → RecOk (apW r g) ∧ lk (apW r g) = apF (lk r) g
  | [], r, _, h => ⟨h, rfl⟩
  | w :: g, r, hg, h => by
    have hw : w.1 ∈ keys := hg w (List.mem_cons.mpr (Or.inl rfl))
    have hg' : GOk g := fun v hv => hg v (List.mem_cons.mpr (Or.inr hv))
    unfold apW apF
    rw [List.foldl_cons, List.foldl_cons]
    have z := apW_ok hg' (h.put hw (v := oV w.2) (isO_oV w.2))
    refine ⟨z.1, ?_⟩
    refine Eq.trans z.2 ?_
    refine congrArg (fun f => apF f g) ?_
    funext k
    rw [lk_put, lkV_oV]
theorem atR_fold : ∀ {l : List Cm} {r : Rec}, LOk l → RecOk r → Full r → RecOk (l.foldl (fun r c => apR r c.2) r) ∧ Full (l.foldl (fun r c => apR r c.2) r) ∧ lk (l.foldl (fun r c => apR r c.2) r) = l.foldl (fun f c => apF f c.2) (lk r)
  | [], r, _, h, hf => ⟨h, hf, rfl⟩
  | c :: l, r, hl, h, hf => by
    have z := apR_ok (hl c (List.mem_cons.mpr (Or.inl rfl))) h hf
    have w := atR_fold (fun d hd => hl d (List.mem_cons.mpr (Or.inr hd))) z.1 z.2.1
    rw [List.foldl_cons, List.foldl_cons, ← z.2.2]
    exact w
theorem atW_fold : ∀ {l : List Cm} {r : Rec}, LOk l → RecOk r → RecOk (l.foldl (fun r c => apW r c.2) r) ∧ lk (l.foldl (fun r c => apW r c.2) r) = l.foldl (fun f c => apF f c.2) (lk r)
  | [], r, _, h => ⟨h, rfl⟩
  | c :: l, r, hl, h => by
    have z := apW_ok (hl c (List.mem_cons.mpr (Or.inl rfl))) h
    have w := atW_fold (fun d hd => hl d (List.mem_cons.mpr (Or.inr hd))) z.1
    rw [List.foldl_cons, List.foldl_cons, ← z.2]
    exact w
theorem LOk.take {l : List Cm} (h : LOk l) (n : Nat) : LOk (l.take n) := fun c hc => h c (List.mem_of_mem_take hc)
theorem lk_nil : lk [] = fun _ => none := rfl
theorem atR_ok {l : List Cm} (h : LOk l) (n : Nat) : RecOk (atR l n) ∧ Full (atR l n) ∧ lk (atR l n) = atF l n := atR_fold (h.take n) RecOk.nil fun p hp => by cases hp
theorem atW_ok {l : List Cm} (h : LOk l) (n : Nat) : RecOk (atW l n) ∧ lk (atW l n) = atF l n := atW_fold (h.take n) RecOk.nil
/-- the keys in order, those of a cover that have a value -/
theorem rows_sorted {r : Rec} (h : RecOk r) (c : Cov) {ys : List Str} (hp : ys.Perm (ktxt r)) (hs : sortedS ys = true) :
    ys.filterMap (fun k => if inC c k = true then (lk r k).map fun i => (k, i) else none) = rowsF (lk r) c := by
  rw [sorted_keys hp hs (ktxt_nd h) fun k hk => ktxt_in h hk]
  unfold rowsF
  rw [List.filterMap_filter]
  refine fmap_congr fun k _ => ?_
  by_cases e : k ∈ ktxt r
  · rw [decide_eq_true e]
    rfl
  · rw [decide_eq_false e]
    have z : lk r k = none := by
      have q : ¬ (valV r (Sum.inr k)).isSome = true := fun q => e ((ktxt_mem h).mpr q)
      unfold lk
      cases o : valV r (Sum.inr k) with
      | none => rfl
      | some v => rw [o] at q; exact absurd rfl q
    rw [z]
    show none = _
    split <;> rfl
end Le

namespace Le
open PySem PySem.Spec PyProof.Rows L2
/-- the keys of a question are keys -/
def Qu.ok (q : Qu) : Prop := q.cov.1 ∈ keys ∧ q.cov.2 ∈ keys
def QsOk (qs : List Qu) : Prop := (∀ q, q ∈ qs → q.ok) ∧ qs.length ≤ 1000
/-- the results are flat things and tuples, no bools -/
def AnOk (an : An) : Prop := (fitA false 2 an.found = true ∧ an.found.length ≤ 1000) ∧ an.ev.length ≤ 1000
def tmL (l : List Cm) (i : Int) : Int := ((l[i.toNat]?).map (·.1)).getD 0
def trueAt (l : List Cm) (time said m : Int) : Bool :=
  !(decide (time < said)) && (decide (0 ≤ m) && decide (m ≤ (l.length : Nat))) && !(decide (0 < m) && decide (said < tmL l (m - 1))) && (decide (m = (l.length : Nat)) || decide (said ≤ tmL l m))
def leaseOn (ls : List Ls) (time i : Int) : Bool := (decide (0 ≤ i) && decide (i < (ls.length : Nat))) && match ls[i.toNat]? with
  | some x => !x.ret && decide (time < x.til)
  | none => false
def trueS (l : List Cm) (ls : List Ls) (time : Int) : Sm → Bool
  | .at s m => trueAt l time s m
  | .lease i => leaseOn ls time i
def EvOk (ls : List Ls) (ev : List Sm) : Prop := (∀ i, Sm.lease i ∈ ev → 0 ≤ i ∧ i < (ls.length : Nat)) ∧ ev.length ≤ 1000
def supOne (ls : List Ls) (mom : Int) (q : Qu) : Sm → Bool
  | .lease i => (match ls[i.toNat]? with
    | some x => incl x.cov q.cov && !decide (mom < x.mom)
    | none => false)
  | .at _ _ => false
def supN (ls : List Ls) (qs : List Qu) (ev : List Sm) (mom : Int) : Bool := decide (ev.length = qs.length) && (qs.zip ev).all fun p => supOne ls mom p.1 p.2
def sup (ls : List Ls) (time : Int) (rd : Rd) (ev : List Sm) (mom : Int) : Bool := match rd.pr with
  | .any => ev.isEmpty
  | .newest => supN ls rd.qs ev mom
  | .age t => (match ev with
    | [.at s m] => decide (m ≤ mom) && decide (time - t ≤ s)
    | _ => false)
def isAns (l : List Cm) (fl : Int) (qs : List Qu) (an : An) : Bool := (decide (fl ≤ an.mom) && decide (an.mom ≤ (l.length : Nat))) && eqbA an.found (resF l qs an.mom.toNat)
def acc (l : List Cm) (ls : List Ls) (time fl : Int) (rd : Rd) (an : An) : Bool := isAns l fl rd.qs an && an.ev.all (trueS l ls time) && sup ls time rd an.ev an.mom
def reachF (l : List Cm) (qs : List Qu) (n : Nat) : Nat := n + ((l.drop n).takeWhile fun c => !(qs.map Qu.cov).any (tch c.2)).length
def endOk (l : List Cm) (time : Int) (pr : Pr) (rr : Nat) : Bool := match pr with
  | .any => true
  | .newest => decide (rr = l.length)
  | .age t => decide (rr = l.length) || decide (time - t ≤ tmL l (rr : Nat))
def right (l : List Cm) (time fl : Int) (rd : Rd) (an : An) : Bool := isAns l fl rd.qs an && endOk l time rd.pr (reachF l rd.qs an.mom.toNat)
def mixF (i : Int) : Int := ((i % 2147483647 * 48271 + 11) % 2147483647 * 69621 + 5) % 2147483629
def numF (i : Int) : Int := if 1000000000000000000 ≤ i then i else mixF i * 2147483629 + mixF (mixF i + i)
def isIntD : D → Bool
  | .int _ => true
  | _ => false
theorem fit_oD (o : Option Int) {b : Bool} {n : Nat} : (oD o).fit b n = true := by cases o <;> simp [oD, D.fit]
theorem rowsF_key {f : Str → Option Int} {c : Cov} {p : Str × Int} (h : p ∈ rowsF f c) : p.1 ∈ keys := by
  obtain ⟨k, hk, e⟩ := List.mem_filterMap.mp h
  split at e
  · obtain ⟨i, hi, rfl⟩ := Option.map_eq_some_iff.mp e
    exact hk
  · cases e
theorem rowsF_len (f : Str → Option Int) (c : Cov) : (rowsF f c).length ≤ 12 := List.length_filterMap_le _ _
theorem fit_row {p : Str × Int} (h : p.1 ∈ keys) {b : Bool} : (kRow p).fit b 1 = true := by
  simp [kRow, D.fit, fitA, key_ok h]
theorem leastF_mem : ∀ {rs : List (Str × Int)} {b : Option (Str × Int)} {p : Str × Int}, leastF rs b = some p → p ∈ rs ∨ b = some p
  | [], b, p, h => Or.inr h
  | r :: rs, none, p, h => by
    rcases leastF_mem (show leastF rs (some r) = some p from h) with q | q
    · exact Or.inl (List.mem_cons.mpr (Or.inr q))
    · exact Or.inl (List.mem_cons.mpr (Or.inl (Option.some.inj q).symm))
  | r :: rs, some b, p, h => by
    rcases leastF_mem (show leastF rs (if r.2 < b.2 then some r else some b) = some p from h) with q | q
    · exact Or.inl (List.mem_cons.mpr (Or.inr q))
    · split at q
      · exact Or.inl (List.mem_cons.mpr (Or.inl (Option.some.inj q).symm))
      · exact Or.inr q
mutual
theorem fit_add {b : Bool} (k : Nat) : ∀ (d : D) (n : Nat), d.fit b n = true → d.fit b (n + k) = true
  | .non, _, _ => by rw [D.fit]
  | .bl _, _, h => by
    rw [D.fit] at h ⊢
    exact h
  | .int _, _, _ => by rw [D.fit]
  | .str _, _, h => by
    rw [D.fit] at h ⊢
    exact h
  | .tup xs, 0, h => by simp [D.fit] at h
  | .tup xs, n + 1, h => by
    rw [D.fit] at h
    rw [Nat.add_right_comm, D.fit]
    exact fitA_add k xs n h
  | .lst xs, 0, h => by simp [D.fit] at h
  | .lst xs, n + 1, h => by
    rw [D.fit] at h
    rw [Nat.add_right_comm, D.fit]
    exact fitA_add k xs n h
  | .dic _, _, h => by simp [D.fit] at h
  | .adr _, _, h => by simp [D.fit] at h
theorem fitA_add {b : Bool} (k : Nat) : ∀ (ds : List D) (n : Nat), fitA b n ds = true → fitA b (n + k) ds = true
  | [], _, _ => by rw [fitA]
  | d :: ds, n, h => by
    rw [fitA, Bool.and_eq_true] at h ⊢
    exact ⟨fit_add k d n h.1, fitA_add k ds n h.2⟩
end
theorem fit_mono {b : Bool} : ∀ {n m : Nat} {d : D}, d.fit b n = true → n ≤ m → d.fit b m = true := by
  intro n m d h hm
  obtain ⟨k, rfl⟩ := Nat.exists_eq_add_of_le hm
  clear hm
  exact fit_add k d n h
theorem fit_askF (f : Str → Option Int) (q : Qu) {b : Bool} : (askF f q).fit b 2 = true := by
  cases q with
  | get k => exact fit_oD _
  | cnt c => simp [askF, D.fit]
  | sum c => simp [askF, D.fit]
  | lst c =>
    rw [askF, D.fit]
    refine fitA_all.mpr fun d hd => ?_
    obtain ⟨p, hp, rfl⟩ := List.mem_map.mp hd
    exact fit_row (rowsF_key hp)
  | lea c =>
    rw [askF]
    cases e : leastF (rowsF f c) none with
    | none => simp [oRow, D.fit]
    | some p =>
      have hp : p.1 ∈ keys := by
        rcases leastF_mem e with q | q
        · exact rowsF_key q
        · cases q
      simp [oRow, kRow, D.fit, fitA, key_ok hp]
theorem fit_resF (l : List Cm) (qs : List Qu) (n : Nat) {b : Bool} : fitA b 2 (resF l qs n) = true := fitA_all.mpr fun d hd => by
  obtain ⟨q, _, rfl⟩ := List.mem_map.mp hd
  exact fit_askF _ _
theorem imm_askF (f : Str → Option Int) (q : Qu) : (askF f q).imm = true := by
  cases q with
  | get k => exact imm_oD _
  | cnt c => rfl
  | sum c => rfl
  | lst c => exact immA_map imm_kRow _
  | lea c =>
    rw [askF]
    cases leastF (rowsF f c) none with
    | none => rfl
    | some p => rfl
def skeys (r : Rec) : List Str := keys.filter fun k => decide (k ∈ ktxt r)
theorem ev_sortedK {F : Fr} {K : PySem.W.Frag} {σ : L2.St} {H : Hp} {te : TE} {r : Rec} (h : Ev F te σ H (.dic r)) (ok : RecOk r) : Ev F (tCB (rSortedS K) (tCons (tCB rListD (tCons te tNil)) tNil)) σ H (.lst ((skeys r).map D.str)) := fun H1 e Q q =>
  h H1 e _ fun v H2 e2 hv => by
    obtain ⟨a, rfl, s, ha⟩ := hv.dic_inv
    refine ⟨a, r, rfl, ha, fun p hp => ?_⟩
    refine ⟨p, ktxt r, rfl, SqL.of (by rw [upd_same, ktxt_keys ok]), by unfold ktxt; rw [List.length_map]; exact ok.small, fun ys p2 hperm hs hp2 => ?_⟩
    have e3 := (e2.new (o := .lst (r.map fun kv => kV kv.1)) hp)
    have ey : ys = skeys r := sorted_keys hperm hs (ktxt_nd ok) fun k hk => ktxt_in ok hk
    subst ey
    refine q _ _ (e3.new hp2) (.lst (e3.fresh hp2) upd_same ?_)
    exact dva_str _
where
  dva_str {F : Fr} {H : Hp} : ∀ ys : List Str, DvA F H (ys.map V.str) (ys.map D.str)
    | [] => .nil
    | y :: ys => .cons (.str y) (dva_str ys)
theorem skeys_mem {r : Rec} (ok : RecOk r) {k : Str} (h : k ∈ skeys r) : ∃ v, valV r (Sum.inr k) = some v ∧ isO v := by
  have z := (ktxt_mem ok).mp (of_decide_eq_true (List.mem_filter.mp h).2)
  obtain ⟨v, hv⟩ := Option.isSome_iff_exists.mp z
  exact ⟨v, hv, (ok.ks _ (valV_mem hv)).2⟩
theorem skeys_len (r : Rec) : (skeys r).length ≤ 12 := List.length_filter_le _ _
def vD : V → D
  | .int i => .int i
  | _ => .non
theorem dv_vD {F : Fr} {H : Hp} {v : V} (h : isO v) : Dv F H v (vD v) := by
  rcases h with rfl | ⟨i, rfl⟩
  · exact .non
  · exact .int i
theorem vD_lk {r : Rec} {k : Str} {v : V} (h : valV r (Sum.inr k) = some v) (ho : isO v) : vD v = oD (lk r k) := by
  unfold lk
  rw [h]
  rcases ho with rfl | ⟨i, rfl⟩ <;> rfl
/-- rows of a dict without None, by sorted keys -/
theorem rows_map {r : Rec} (ok : RecOk r) (fu : Full r) (c : Cov) : ((skeys r).filter (inC c)).map (fun k => D.tup [.str k, oD (lk r k)]) = (rowsF (lk r) c).map kRow := by
  unfold skeys rowsF
  have gen : ∀ l : List Str, ((l.filter fun k => decide (k ∈ ktxt r)).filter (inC c)).map (fun k => D.tup [.str k, oD (lk r k)]) = (l.filterMap fun k => if inC c k = true then (lk r k).map fun i => (k, i) else none).map kRow := by
    intro l
    induction l with
    | nil => rfl
    | cons k l ih =>
      rw [List.filter_cons, List.filterMap_cons]
      by_cases hk : k ∈ ktxt r
      · rw [if_pos (decide_eq_true hk), List.filter_cons]
        cases hc : inC c k with
        | true =>
          obtain ⟨v, hv⟩ := Option.isSome_iff_exists.mp ((ktxt_mem ok).mp hk)
          have ho := (ok.ks _ (valV_mem hv)).2
          have nn : v ≠ .non := fu _ (valV_mem hv)
          have el : ∃ i, lk r k = some i := by
            unfold lk
            rw [hv]
            rcases ho with rfl | ⟨i, rfl⟩
            · exact absurd rfl nn
            · exact ⟨i, rfl⟩
          obtain ⟨i, ei⟩ := el
          rw [if_pos rfl, if_pos rfl, List.map_cons, ei]
          exact congrArg _ ih
        | false =>
          rw [if_neg Bool.false_ne_true, if_neg Bool.false_ne_true]
          exact ih
      · rw [if_neg (by rw [decide_eq_false hk]; decide)]
        have z : lk r k = none := by
          unfold lk
          cases o : valV r (Sum.inr k) with
          | none => rfl
          | some v => exact absurd ((ktxt_mem ok).mpr (by rw [o]; rfl)) hk
        rw [z]
        have e : (if inC c k = true then (Option.none : Option Int).map (fun i => (k, i)) else none) = none := by split <;> rfl
        rw [e]
        exact ih
  exact gen keys
/-- the law's rows, by sorted keys -/
def rowW (r : Rec) (c : Cov) (k : Str) : Option (Str × Int) := if inC c k = true then (lk r k).map fun i => (k, i) else none
theorem rows_w {r : Rec} (ok : RecOk r) (c : Cov) : (skeys r).filterMap (rowW r c) = rowsF (lk r) c := by
  unfold skeys rowsF rowW
  rw [List.filterMap_filter]
  refine fmap_congr fun k _ => ?_
  by_cases e : k ∈ ktxt r
  · rw [decide_eq_true e]
    rfl
  · rw [decide_eq_false e]
    have z : lk r k = none := by
      unfold lk
      cases o : valV r (Sum.inr k) with
      | none => rfl
      | some v => exact absurd ((ktxt_mem ok).mpr (by rw [o]; rfl)) e
    rw [z]
    show none = _
    split <;> rfl
theorem keys_self : ∀ k, k ∈ keys → keys.filter (inC (k, k)) = [k] := by decide +kernel
def oneRow (k : Str) : Option Int → List (Str × Int)
  | some i => [(k, i)]
  | none => []
theorem rows_get {f : Str → Option Int} {k : Str} (h : k ∈ keys) : rowsF f (k, k) = oneRow k (f k) := by
  have e : rowsF f (k, k) = (keys.filter (inC (k, k))).filterMap fun k => (f k).map fun i => (k, i) := by
    unfold rowsF
    rw [List.filterMap_filter]
  rw [e, keys_self k h, List.filterMap_cons]
  cases f k <;> rfl
theorem atI_map {α : Type} {f : α → D} {l : List α} {i : Int} {c : α} (h0 : 0 ≤ i) (h : l[i.toNat]? = some c) : atI (l.map f) i = some (f c) := by
  have e : i = ((i.toNat : Nat) : Int) := by omega
  have z : (l.map f)[i.toNat]? = some (f c) := by
    rw [List.getElem?_map, h]
    rfl
  have w := atI_nat z
  rw [← e] at w
  exact w
theorem some_at {α : Type} {l : List α} {i : Int} (h0 : 0 ≤ i) (h1 : i < (l.length : Nat)) : ∃ c, l[i.toNat]? = some c := by
  have z : i.toNat < l.length := by omega
  exact ⟨l[i.toNat], List.getElem?_eq_getElem z⟩
theorem at_cm {l : List Cm} {i : Int} (h0 : 0 ≤ i) (h1 : i < (l.length : Nat)) : ∃ c, atI (l.map kCm) i = some (kCm c) ∧ tmL l i = c.1 ∧ l[i.toNat]? = some c := by
  obtain ⟨c, hc⟩ := some_at h0 h1
  refine ⟨c, atI_map h0 hc, ?_, hc⟩
  unfold tmL
  rw [hc]
  rfl
theorem len_map {α : Type} (f : α → D) (l : List α) : ((l.map f).length : Int) = (l.length : Nat) := by rw [List.length_map]
theorem fit_kS (s : Sm) {b : Bool} : (kS s).fit b 1 = true := by
  have h1 : PySem.PyData.strOk "lease" = true := by decide +kernel
  have h2 : PySem.PyData.strOk "at" = true := by decide +kernel
  cases s <;> simp [kS, D.fit, fitA, h1, h2]
def tyN : D → String
  | .non => "NoneType"
  | .bl _ => "bool"
  | .int _ => "int"
  | .str _ => "str"
  | .tup _ => "tuple"
  | .lst _ => "list"
  | .dic _ => "dict"
  | .adr _ => ""
theorem tyx_of {F : Fr} {K : PySem.W.Frag} {H : Hp} {v : V} {d : D} (h : Dv F H v d) (hd : tyN d ≠ "") : TyX K H v (.type (tyN d)) := by
  cases h with
  | non => exact .base .non
  | bl b => exact .base (.bl b)
  | int i => exact .base (.int i)
  | str x => exact .base (.str x)
  | adr a => exact absurd rfl hd
  | tup a r => exact .base (.tup a)
  | lst s a r => exact .base (.lst a)
  | dic s a => exact .base (.dK a)
theorem ev_isi {F : Fr} {K : PySem.W.Frag} {σ : L2.St} {H : Hp} {te : TE} {d : D} {T : String} {b : Bool} (h : Ev F te σ H d) (hd : tyN d ≠ "") (hk : kitB (tyN d) T = some b) : Ev F (tCB (rIsi K) (tCons te (tCons (tC (.ty T)) tNil))) σ H (.bl b) := fun H1 e Q q =>
  h H1 e _ fun v H2 e2 hv => ⟨v, _, _, _, b, rfl, .ty T, tyx_of hv hd, kit_ty hk, q _ H2 e2 (.bl b)⟩
theorem ev_isi2 {F : Fr} {K : PySem.W.Frag} {σ : L2.St} {H : Hp} {te : TE} {d : D} {T U : String} {b c : Bool} (h : Ev F te σ H d) (hd : tyN d ≠ "") (hk : kitB (tyN d) T = some b) (hk2 : kitB (tyN d) U = some c) :
    Ev F (tCB (rIsiT K) (tCons te (tCons (tTup (tCons (tC (.ty T)) (tCons (tC (.ty U)) tNil))) tNil))) σ H (.bl (b || c)) := fun H1 e Q q =>
  h H1 e _ fun v H2 e2 hv => ⟨by show 2 ≤ sizeLine; decide, fun p hp => by
    have e3 := (Ext.refl e2.j).new (o := .tup [.ty T, .ty U]) hp
    refine ⟨v, p, _, _, _, b || c, rfl, upd_same, .cons (.ty T) (.cons (.ty U) .nil), tyx_of (hv.mono e3) hd, ?_, q _ _ (e2.trans e3) (.bl _)⟩
    refine kitAny_cons (b := b) (kit_ty hk) (fun hb => ?_) (fun hb => by rw [hb]; rfl)
    rw [hb]
    exact kitAny_cons (b := c) (kit_ty hk2) (fun hc => by rw [hc]; exact kitAny_nil) (fun hc => by rw [hc]; rfl)⟩
theorem rv_ixsT {F : Fr} {K : PySem.W.Frag} {H : Hp} {ds : List D} {i : Int} {d : D} (ha : atI ds i = some d) : RV F (rIx K) (.tup ds) (.int i) H d := fun x y H1 e hx hy Q q => Or.inr (Or.inl (rv_ixT ha x y H1 e hx hy Q q))
theorem rv_ixsL {F : Fr} {K : PySem.W.Frag} {H : Hp} {ds : List D} {i : Int} {d : D} (ha : atI ds i = some d) : RV F (rIx K) (.lst ds) (.int i) H d := fun x y H1 e hx hy Q q => Or.inl (rv_ixL ha x y H1 e hx hy Q q)
theorem eqbA_zip : ∀ {xs ys : List D}, xs.length = ys.length → eqbA xs ys = (xs.zip ys).all fun p => p.1.eqb p.2
  | [], [], _ => by rw [eqbA]; rfl
  | [], _ :: _, h => by cases h
  | _ :: _, [], h => by cases h
  | x :: xs, y :: ys, h => by
    rw [eqbA, eqbA_zip (Nat.succ.inj h)]
    rfl
theorem eqbA_len : ∀ {xs ys : List D}, eqbA xs ys = true → xs.length = ys.length
  | [], [], _ => rfl
  | [], _ :: _, h => by simp [eqbA] at h
  | _ :: _, [], h => by simp [eqbA] at h
  | x :: xs, y :: ys, h => by
    rw [eqbA, Bool.and_eq_true] at h
    exact congrArg Nat.succ (eqbA_len h.2)
mutual
/-- no part longer than 1000 -/
def D.small : D → Bool
  | .tup xs => decide (xs.length ≤ 1000) && smallA xs
  | .lst xs => decide (xs.length ≤ 1000) && smallA xs
  | _ => true
def smallA : List D → Bool
  | [] => true
  | x :: xs => x.small && smallA xs
end
theorem smallA_all : ∀ {ds : List D}, smallA ds = true ↔ ∀ d, d ∈ ds → d.small = true
  | [] => by
    constructor
    · intro _ d h
      cases h
    · intro _
      rw [smallA]
  | d :: ds => by
    rw [smallA, Bool.and_eq_true, smallA_all (ds := ds)]
    constructor
    · rintro ⟨a, b⟩ x hx
      rcases List.mem_cons.mp hx with rfl | hx
      · exact a
      · exact b x hx
    · intro h
      exact ⟨h d (List.mem_cons.mpr (Or.inl rfl)), fun x hx => h x (List.mem_cons.mpr (Or.inr hx))⟩
theorem small_row (p : Str × Int) : (kRow p).small = true := by simp [kRow, D.small, smallA]
theorem small_askF (f : Str → Option Int) (q : Qu) : (askF f q).small = true := by
  cases q with
  | get k =>
    rw [askF]
    cases f k <;> simp [oD, D.small]
  | cnt c => simp [askF, D.small]
  | sum c => simp [askF, D.small]
  | lst c =>
    have l := rowsF_len f c
    rw [askF, D.small, List.length_map, decide_eq_true (by omega), Bool.true_and]
    exact smallA_all.mpr fun d hd => by
      obtain ⟨p, _, rfl⟩ := List.mem_map.mp hd
      exact small_row p
  | lea c =>
    rw [askF]
    cases leastF (rowsF f c) none with
    | none => simp [oRow, D.small]
    | some p => exact small_row p
theorem small_resF (l : List Cm) (qs : List Qu) (n : Nat) (h : qs.length ≤ 1000) : (D.lst (resF l qs n)).small = true := by
  unfold resF
  rw [D.small, List.length_map, decide_eq_true h, Bool.true_and]
  exact smallA_all.mpr fun d hd => by
    obtain ⟨p, _, rfl⟩ := List.mem_map.mp hd
    exact small_askF _ p
def sp_w_same (n : Nat) : Sp := SpG (ι := D × D) (fun _ _ x => x.1.fit false n = true ∧ x.2.fit false n = true ∧ x.2.small = true) (fun x => [x.1, x.2]) fun x => .bl (x.1.eqb x.2)
theorem ev_w_same {n : Nat} {F : Fr} {σ : L2.St} {H : Hp} {t : TA} {a d : D} (h : EvA F t σ H [a, d]) (o : a.fit false n = true ∧ d.fit false n = true ∧ d.small = true) : Ev F (tCall (sp_w_same n) [] E0 t) σ H (.bl (a.eqb d)) :=
  ev_callD (ι := D × D) (ok := fun x => x.1.fit false n = true ∧ x.2.fit false n = true ∧ x.2.small = true) (a, d) h rfl o
theorem bls_of {F : Fr} {H : Hp} : ∀ {ys : List V} {ns : List Bool}, DvA F H ys (ns.map D.bl) → ys = ns.map V.bl
  | [], [], _ => rfl
  | [], _ :: _, h => by cases h
  | _ :: _, [], h => by cases h
  | y :: ys, n :: ns, .cons a b => by
    rw [a.bl_inv, bls_of b]
    rfl
theorem rv_inB {F : Fr} {K : PySem.W.Frag} {H : Hp} {b : Bool} {bs : List Bool} : RV F (rIn K false) (.bl b) (.lst (bs.map D.bl)) H (.bl (bs.any fun c => c == b)) := fun x y H1 e hx hy Q q => by
  cases hx.bl_inv
  obtain ⟨a, ys, rfl, s, ha, hd⟩ := hy.lst_inv
  have ey : ys = bs.map V.bl := bls_of hd
  subst ey
  refine ⟨a, _, rfl, Or.inl (SqL.of ha), rfl, ?_, ?_⟩
  · rw [List.all_eq_true]
    intro v hv
    obtain ⟨c, _, rfl⟩ := List.mem_map.mp hv
    rfl
  · have ez : inV (.bl b) (bs.map V.bl) = bs.any fun c => c == b := by
      unfold inV
      rw [List.any_map]
      rfl
    show Q (.bl (if false = true then !inV (.bl b) (bs.map V.bl) else inV (.bl b) (bs.map V.bl))) H1
    rw [if_neg Bool.false_ne_true, ez]
    exact q _ H1 (Ext.refl e.j) (.bl _)
def sp_contains : Sp := SpG (ι := (Cov) × (Str)) (fun _ _ x => True) (fun x => [kC (x.1), .str (x.2)]) fun x => .bl (inC (x.1) (x.2))
def sp_includes : Sp := SpG (ι := (Cov) × (Cov)) (fun _ _ x => True) (fun x => [kC (x.1), kC (x.2)]) fun x => .bl (incl (x.1) (x.2))
def sp_touches : Sp := SpG (ι := (Gr) × (Cov)) (fun _ _ x => True) (fun x => [kG (x.1), kC (x.2)]) fun x => .bl (tch (x.1) (x.2))
def sp_cover_of : Sp := SpG (ι := (Qu)) (fun _ _ x => True) (fun x => [kQ (x)]) fun x => kC (x).cov
def sp_w_cover_of : Sp := SpG (ι := (Qu)) (fun _ _ x => True) (fun x => [kQ (x)]) fun x => kC (x).cov
def sp_w_within : Sp := SpG (ι := (Cov) × (Cov)) (fun _ _ x => True) (fun x => [kC (x.1), kC (x.2)]) fun x => .bl (within (x.1) (x.2))
def sp_w_touches : Sp := SpG (ι := (Gr) × (List Cov)) (fun _ _ x => True) (fun x => [kG (x.1), .lst ((x.2).map kC)]) fun x => .bl ((x.2).any (tch (x.1)))
def sp_least_record : Sp := SpG (ι := (List (Str × Int))) (fun _ _ x => True) (fun x => [kRows (x)]) fun x => oRow (leastF (x) none)
def sp_selected : Sp := SpG (ι := (Rec) × (Cov)) (fun _ _ x => RecOk (x.1) ∧ Full (x.1)) (fun x => [kR (x.1), kC (x.2)]) fun x => kRows (rowsF (lk (x.1)) (x.2))
def sp_w_rows : Sp := SpG (ι := (Rec) × (Cov)) (fun _ _ x => RecOk (x.1)) (fun x => [kR (x.1), kC (x.2)]) fun x => kRows (rowsF (lk (x.1)) (x.2))
def sp_ask : Sp := SpG (ι := (Rec) × (Qu)) (fun _ _ x => RecOk (x.1) ∧ Full (x.1)) (fun x => [kR (x.1), kQ (x.2)]) fun x => askF (lk (x.1)) (x.2)
def sp_w_ask : Sp := SpG (ι := (Rec) × (Qu)) (fun _ _ x => RecOk (x.1) ∧ (x.2).ok) (fun x => [kR (x.1), kQ (x.2)]) fun x => askF (lk (x.1)) (x.2)
def sp_apply : Sp := SpG (ι := (Rec) × (Gr)) (fun _ _ x => RecOk (x.1) ∧ Full (x.1) ∧ GOk (x.2)) (fun x => [kR (x.1), kG (x.2)]) fun x => kR (apR (x.1) (x.2))
def sp_at : Sp := SpG (ι := (List Cm) × (Int)) (fun _ _ x => LOk (x.1) ∧ 0 ≤ (x.2)) (fun x => [kLg (x.1), .int (x.2)]) fun x => kR (atR (x.1) (x.2).toNat)
def sp_w_at : Sp := SpG (ι := (List Cm) × (Int)) (fun _ _ x => LOk (x.1) ∧ 0 ≤ (x.2)) (fun x => [kLg (x.1), .int (x.2)]) fun x => kR (atW (x.1) (x.2).toNat)
def sp_results : Sp := SpG (ι := (List Cm) × (List Qu) × (Int)) (fun _ _ x => LOk (x.1) ∧ 0 ≤ (x.2.2) ∧ QsOk (x.2.1)) (fun x => [kLg (x.1), kQs (x.2.1), .int (x.2.2)]) fun x => .lst (resF (x.1) (x.2.1) (x.2.2).toNat)
def sp_w_results : Sp := SpN (ι := (List Cm) × (List Qu) × (Int)) (fun _ _ x => LOk (x.1) ∧ 0 ≤ (x.2.2) ∧ QsOk (x.2.1)) (fun x => [kLg (x.1), kQs (x.2.1), .int (x.2.2)]) fun x => resF (x.1) (x.2.1) (x.2.2).toNat
def sp_is_answer_at : Sp := SpG (ι := (List Cm) × (Int) × (List Qu) × (An)) (fun _ _ x => LOk (x.1) ∧ 0 ≤ (x.2.1) ∧ AnOk (x.2.2.2) ∧ QsOk (x.2.2.1)) (fun x => [kLg (x.1), .int (x.2.1), kQs (x.2.2.1), kAn (x.2.2.2)]) fun x => .bl (isAns (x.1) (x.2.1) (x.2.2.1) (x.2.2.2))
def sp_is_true_at : Sp := SpG (ι := (List Cm) × (Int) × (Int) × (Int)) (fun _ _ x => True) (fun x => [kLg (x.1), .int (x.2.1), .int (x.2.2.1), .int (x.2.2.2)]) fun x => .bl (trueAt (x.1) (x.2.1) (x.2.2.1) (x.2.2.2))
def sp_is_true : Sp := SpG (ι := (List Cm) × (List Ls) × (Int) × (Sm)) (fun _ _ x => True) (fun x => [kLg (x.1), kLss (x.2.1), .int (x.2.2.1), kS (x.2.2.2)]) fun x => .bl (trueS (x.1) (x.2.1) (x.2.2.1) (x.2.2.2))
def sp_w_is_true : Sp := SpG (ι := (List Cm) × (List Ls) × (Int) × (Sm)) (fun _ _ x => True) (fun x => [kLg (x.1), kLss (x.2.1), .int (x.2.2.1), kS (x.2.2.2)]) fun x => .bl (trueS (x.1) (x.2.1) (x.2.2.1) (x.2.2.2))
def sp_supports_newest : Sp := SpG (ι := (List Ls) × (List Qu) × (List Sm) × (Int)) (fun _ _ x => EvOk (x.1) (x.2.2.1) ∧ QsOk (x.2.1)) (fun x => [kLss (x.1), kQs (x.2.1), kSs (x.2.2.1), .int (x.2.2.2)]) fun x => .bl (supN (x.1) (x.2.1) (x.2.2.1) (x.2.2.2))
def sp_supports : Sp := SpG (ι := (List Ls) × (Int) × (Rd) × (List Sm) × (Int)) (fun _ _ x => EvOk (x.1) (x.2.2.2.1) ∧ QsOk (x.2.2.1).qs) (fun x => [kLss (x.1), .int (x.2.1), kRd (x.2.2.1), kSs (x.2.2.2.1), .int (x.2.2.2.2)]) fun x => .bl (sup (x.1) (x.2.1) (x.2.2.1) (x.2.2.2.1) (x.2.2.2.2))
def sp_w_supports : Sp := SpG (ι := (List Ls) × (Int) × (Rd) × (An)) (fun _ _ x => EvOk (x.1) (x.2.2.2).ev ∧ QsOk (x.2.2.1).qs) (fun x => [kLss (x.1), .int (x.2.1), kRd (x.2.2.1), kAn (x.2.2.2)]) fun x => .bl (sup (x.1) (x.2.1) (x.2.2.1) (x.2.2.2).ev (x.2.2.2).mom)
def sp_accepts : Sp := SpG (ι := (List Cm) × (List Ls) × (Int) × (Int) × (Rd) × (An)) (fun _ _ x => LOk (x.1) ∧ 0 ≤ (x.2.2.2.1) ∧ AnOk (x.2.2.2.2.2) ∧ QsOk (x.2.2.2.2.1).qs) (fun x => [kLg (x.1), kLss (x.2.1), .int (x.2.2.1), .int (x.2.2.2.1), kRd (x.2.2.2.2.1), kAn (x.2.2.2.2.2)]) fun x => .bl (acc (x.1) (x.2.1) (x.2.2.1) (x.2.2.2.1) (x.2.2.2.2.1) (x.2.2.2.2.2))
def sp_w_accepts : Sp := SpG (ι := (List Cm) × (List Ls) × (Int) × (Int) × (Rd) × (An)) (fun _ _ x => LOk (x.1) ∧ 0 ≤ (x.2.2.2.1) ∧ AnOk (x.2.2.2.2.2) ∧ QsOk (x.2.2.2.2.1).qs) (fun x => [kLg (x.1), kLss (x.2.1), .int (x.2.2.1), .int (x.2.2.2.1), kRd (x.2.2.2.2.1), kAn (x.2.2.2.2.2)]) fun x => .bl (acc (x.1) (x.2.1) (x.2.2.1) (x.2.2.2.1) (x.2.2.2.2.1) (x.2.2.2.2.2))
def sp_w_is_right : Sp := SpG (ι := (List Cm) × (Int) × (Int) × (Rd) × (An)) (fun _ _ x => LOk (x.1) ∧ 0 ≤ (x.2.2.1) ∧ AnOk (x.2.2.2.2) ∧ QsOk (x.2.2.2.1).qs) (fun x => [kLg (x.1), .int (x.2.1), .int (x.2.2.1), kRd (x.2.2.2.1), kAn (x.2.2.2.2)]) fun x => .bl (right (x.1) (x.2.1) (x.2.2.1) (x.2.2.2.1) (x.2.2.2.2))
def sp_w_reach : Sp := SpG (ι := (List Cm) × (List Qu) × (Int)) (fun _ _ x => 0 ≤ (x.2.2) ∧ QsOk (x.2.1)) (fun x => [kLg (x.1), kQs (x.2.1), .int (x.2.2)]) fun x => .int (reachF (x.1) (x.2.1) (x.2.2).toNat : Nat)
def sp_w_mix : Sp := SpG (ι := (Int)) (fun _ _ x => True) (fun x => [.int (x)]) fun x => .int (mixF (x))
def sp_w_number : Sp := SpG (ι := (Int)) (fun _ _ x => True) (fun x => [.int (x)]) fun x => .int (numF (x))
def sp_w_is_integer : Sp := SpG (ι := (D)) (fun _ _ x => (x).fit false 5 = true) (fun x => [(x)]) fun x => .bl (isIntD (x))
def sp_w_tells : Sp := SpG (ι := (Bool) × (Bool)) (fun _ _ x => True) (fun x => [.bl (x.1), .bl (x.2)]) fun x => .bl (decide ((x.1) = (x.2)))
section
variable {F : Fr} {σ : L2.St} {H : Hp} {t : TA}
theorem ev_contains {c : Cov} {k : Str} (h : EvA F t σ H [kC c, .str k]) : Ev F (tCall sp_contains [] E0 t) σ H (.bl (inC c k)) := ev_callD (ι := (Cov) × (Str)) (ok := fun x => True) (c, k) h rfl trivial
theorem ev_includes {o : Cov} {i : Cov} (h : EvA F t σ H [kC o, kC i]) : Ev F (tCall sp_includes [] E0 t) σ H (.bl (incl o i)) := ev_callD (ι := (Cov) × (Cov)) (ok := fun x => True) (o, i) h rfl trivial
theorem ev_touches {g : Gr} {c : Cov} (h : EvA F t σ H [kG g, kC c]) : Ev F (tCall sp_touches [] E0 t) σ H (.bl (tch g c)) := ev_callD (ι := (Gr) × (Cov)) (ok := fun x => True) (g, c) h rfl trivial
theorem ev_cover_of {q : Qu} (h : EvA F t σ H [kQ q]) : Ev F (tCall sp_cover_of [] E0 t) σ H (kC q.cov) := ev_callD (ι := (Qu)) (ok := fun x => True) (q) h rfl trivial
theorem ev_w_cover_of {q : Qu} (h : EvA F t σ H [kQ q]) : Ev F (tCall sp_w_cover_of [] E0 t) σ H (kC q.cov) := ev_callD (ι := (Qu)) (ok := fun x => True) (q) h rfl trivial
theorem ev_w_within {o : Cov} {i : Cov} (h : EvA F t σ H [kC o, kC i]) : Ev F (tCall sp_w_within [] E0 t) σ H (.bl (within o i)) := ev_callD (ι := (Cov) × (Cov)) (ok := fun x => True) (o, i) h rfl trivial
theorem ev_w_touches {g : Gr} {cs : List Cov} (h : EvA F t σ H [kG g, .lst (cs.map kC)]) : Ev F (tCall sp_w_touches [] E0 t) σ H (.bl (cs.any (tch g))) := ev_callD (ι := (Gr) × (List Cov)) (ok := fun x => True) (g, cs) h rfl trivial
theorem ev_least_record {rs : List (Str × Int)} (h : EvA F t σ H [kRows rs]) : Ev F (tCall sp_least_record [] E0 t) σ H (oRow (leastF rs none)) := ev_callD (ι := (List (Str × Int))) (ok := fun x => True) (rs) h rfl trivial
theorem ev_selected {r : Rec} {c : Cov} (h : EvA F t σ H [kR r, kC c]) (o : RecOk r ∧ Full r) : Ev F (tCall sp_selected [] E0 t) σ H (kRows (rowsF (lk r) c)) := ev_callD (ι := (Rec) × (Cov)) (ok := fun x => RecOk (x.1) ∧ Full (x.1)) (r, c) h rfl o
theorem ev_w_rows {r : Rec} {c : Cov} (h : EvA F t σ H [kR r, kC c]) (o : RecOk r) : Ev F (tCall sp_w_rows [] E0 t) σ H (kRows (rowsF (lk r) c)) := ev_callD (ι := (Rec) × (Cov)) (ok := fun x => RecOk (x.1)) (r, c) h rfl o
theorem ev_ask {r : Rec} {q : Qu} (h : EvA F t σ H [kR r, kQ q]) (o : RecOk r ∧ Full r) : Ev F (tCall sp_ask [] E0 t) σ H (askF (lk r) q) := ev_callD (ι := (Rec) × (Qu)) (ok := fun x => RecOk (x.1) ∧ Full (x.1)) (r, q) h rfl o
theorem ev_w_ask {r : Rec} {q : Qu} (h : EvA F t σ H [kR r, kQ q]) (o : RecOk r ∧ q.ok) : Ev F (tCall sp_w_ask [] E0 t) σ H (askF (lk r) q) := ev_callD (ι := (Rec) × (Qu)) (ok := fun x => RecOk (x.1) ∧ (x.2).ok) (r, q) h rfl o
theorem ev_apply {r : Rec} {g : Gr} (h : EvA F t σ H [kR r, kG g]) (o : RecOk r ∧ Full r ∧ GOk g) : Ev F (tCall sp_apply [] E0 t) σ H (kR (apR r g)) := ev_callD (ι := (Rec) × (Gr)) (ok := fun x => RecOk (x.1) ∧ Full (x.1) ∧ GOk (x.2)) (r, g) h rfl o
theorem ev_at {l : List Cm} {m : Int} (h : EvA F t σ H [kLg l, .int m]) (o : LOk l ∧ 0 ≤ m) : Ev F (tCall sp_at [] E0 t) σ H (kR (atR l m.toNat)) := ev_callD (ι := (List Cm) × (Int)) (ok := fun x => LOk (x.1) ∧ 0 ≤ (x.2)) (l, m) h rfl o
theorem ev_w_at {l : List Cm} {m : Int} (h : EvA F t σ H [kLg l, .int m]) (o : LOk l ∧ 0 ≤ m) : Ev F (tCall sp_w_at [] E0 t) σ H (kR (atW l m.toNat)) := ev_callD (ι := (List Cm) × (Int)) (ok := fun x => LOk (x.1) ∧ 0 ≤ (x.2)) (l, m) h rfl o
theorem ev_results {l : List Cm} {qs : List Qu} {m : Int} (h : EvA F t σ H [kLg l, kQs qs, .int m]) (o : LOk l ∧ 0 ≤ m ∧ QsOk qs) : Ev F (tCall sp_results [] E0 t) σ H (.lst (resF l qs m.toNat)) := ev_callD (ι := (List Cm) × (List Qu) × (Int)) (ok := fun x => LOk (x.1) ∧ 0 ≤ (x.2.2) ∧ QsOk (x.2.1)) (l, qs, m) h rfl o
theorem en_w_results {l : List Cm} {qs : List Qu} {m : Int} (h : EvA F t σ H [kLg l, kQs qs, .int m]) (o : LOk l ∧ 0 ≤ m ∧ QsOk qs) : EvN F (tCall sp_w_results [] E0 t) σ H (resF l qs m.toNat) := en_call (ι := (List Cm) × (List Qu) × (Int)) (Pre := fun _ _ x => LOk (x.1) ∧ 0 ≤ (x.2.2) ∧ QsOk (x.2.1)) (l, qs, m) h rfl (fun _ _ _ _ _ z => z) o
theorem ev_w_results {l : List Cm} {qs : List Qu} {m : Int} (h : EvA F t σ H [kLg l, kQs qs, .int m]) (o : LOk l ∧ 0 ≤ m ∧ QsOk qs) : Ev F (tCall sp_w_results [] E0 t) σ H (.lst (resF l qs m.toNat)) := (en_w_results h o).toEv
theorem ev_is_answer_at {l : List Cm} {fl : Int} {qs : List Qu} {an : An} (h : EvA F t σ H [kLg l, .int fl, kQs qs, kAn an]) (o : LOk l ∧ 0 ≤ fl ∧ AnOk an ∧ QsOk qs) : Ev F (tCall sp_is_answer_at [] E0 t) σ H (.bl (isAns l fl qs an)) := ev_callD (ι := (List Cm) × (Int) × (List Qu) × (An)) (ok := fun x => LOk (x.1) ∧ 0 ≤ (x.2.1) ∧ AnOk (x.2.2.2) ∧ QsOk (x.2.2.1)) (l, fl, qs, an) h rfl o
theorem ev_is_true_at {l : List Cm} {time : Int} {said : Int} {m : Int} (h : EvA F t σ H [kLg l, .int time, .int said, .int m]) : Ev F (tCall sp_is_true_at [] E0 t) σ H (.bl (trueAt l time said m)) := ev_callD (ι := (List Cm) × (Int) × (Int) × (Int)) (ok := fun x => True) (l, time, said, m) h rfl trivial
theorem ev_is_true {l : List Cm} {ls : List Ls} {time : Int} {st : Sm} (h : EvA F t σ H [kLg l, kLss ls, .int time, kS st]) : Ev F (tCall sp_is_true [] E0 t) σ H (.bl (trueS l ls time st)) := ev_callD (ι := (List Cm) × (List Ls) × (Int) × (Sm)) (ok := fun x => True) (l, ls, time, st) h rfl trivial
theorem ev_w_is_true {l : List Cm} {ls : List Ls} {time : Int} {st : Sm} (h : EvA F t σ H [kLg l, kLss ls, .int time, kS st]) : Ev F (tCall sp_w_is_true [] E0 t) σ H (.bl (trueS l ls time st)) := ev_callD (ι := (List Cm) × (List Ls) × (Int) × (Sm)) (ok := fun x => True) (l, ls, time, st) h rfl trivial
theorem ev_supports_newest {ls : List Ls} {qs : List Qu} {ev : List Sm} {mom : Int} (h : EvA F t σ H [kLss ls, kQs qs, kSs ev, .int mom]) (o : EvOk ls ev ∧ QsOk qs) : Ev F (tCall sp_supports_newest [] E0 t) σ H (.bl (supN ls qs ev mom)) := ev_callD (ι := (List Ls) × (List Qu) × (List Sm) × (Int)) (ok := fun x => EvOk (x.1) (x.2.2.1) ∧ QsOk (x.2.1)) (ls, qs, ev, mom) h rfl o
theorem ev_supports {ls : List Ls} {time : Int} {rd : Rd} {ev : List Sm} {mom : Int} (h : EvA F t σ H [kLss ls, .int time, kRd rd, kSs ev, .int mom]) (o : EvOk ls ev ∧ QsOk rd.qs) : Ev F (tCall sp_supports [] E0 t) σ H (.bl (sup ls time rd ev mom)) := ev_callD (ι := (List Ls) × (Int) × (Rd) × (List Sm) × (Int)) (ok := fun x => EvOk (x.1) (x.2.2.2.1) ∧ QsOk (x.2.2.1).qs) (ls, time, rd, ev, mom) h rfl o
theorem ev_w_supports {ls : List Ls} {time : Int} {rd : Rd} {an : An} (h : EvA F t σ H [kLss ls, .int time, kRd rd, kAn an]) (o : EvOk ls an.ev ∧ QsOk rd.qs) : Ev F (tCall sp_w_supports [] E0 t) σ H (.bl (sup ls time rd an.ev an.mom)) := ev_callD (ι := (List Ls) × (Int) × (Rd) × (An)) (ok := fun x => EvOk (x.1) (x.2.2.2).ev ∧ QsOk (x.2.2.1).qs) (ls, time, rd, an) h rfl o
theorem ev_accepts {l : List Cm} {ls : List Ls} {time : Int} {fl : Int} {rd : Rd} {an : An} (h : EvA F t σ H [kLg l, kLss ls, .int time, .int fl, kRd rd, kAn an]) (o : LOk l ∧ 0 ≤ fl ∧ AnOk an ∧ QsOk rd.qs) : Ev F (tCall sp_accepts [] E0 t) σ H (.bl (acc l ls time fl rd an)) := ev_callD (ι := (List Cm) × (List Ls) × (Int) × (Int) × (Rd) × (An)) (ok := fun x => LOk (x.1) ∧ 0 ≤ (x.2.2.2.1) ∧ AnOk (x.2.2.2.2.2) ∧ QsOk (x.2.2.2.2.1).qs) (l, ls, time, fl, rd, an) h rfl o
theorem ev_w_accepts {l : List Cm} {ls : List Ls} {time : Int} {fl : Int} {rd : Rd} {an : An} (h : EvA F t σ H [kLg l, kLss ls, .int time, .int fl, kRd rd, kAn an]) (o : LOk l ∧ 0 ≤ fl ∧ AnOk an ∧ QsOk rd.qs) : Ev F (tCall sp_w_accepts [] E0 t) σ H (.bl (acc l ls time fl rd an)) := ev_callD (ι := (List Cm) × (List Ls) × (Int) × (Int) × (Rd) × (An)) (ok := fun x => LOk (x.1) ∧ 0 ≤ (x.2.2.2.1) ∧ AnOk (x.2.2.2.2.2) ∧ QsOk (x.2.2.2.2.1).qs) (l, ls, time, fl, rd, an) h rfl o
theorem ev_w_is_right {l : List Cm} {time : Int} {fl : Int} {rd : Rd} {an : An} (h : EvA F t σ H [kLg l, .int time, .int fl, kRd rd, kAn an]) (o : LOk l ∧ 0 ≤ fl ∧ AnOk an ∧ QsOk rd.qs) : Ev F (tCall sp_w_is_right [] E0 t) σ H (.bl (right l time fl rd an)) := ev_callD (ι := (List Cm) × (Int) × (Int) × (Rd) × (An)) (ok := fun x => LOk (x.1) ∧ 0 ≤ (x.2.2.1) ∧ AnOk (x.2.2.2.2) ∧ QsOk (x.2.2.2.1).qs) (l, time, fl, rd, an) h rfl o
theorem ev_w_reach {l : List Cm} {qs : List Qu} {m : Int} (h : EvA F t σ H [kLg l, kQs qs, .int m]) (o : 0 ≤ m ∧ QsOk qs) : Ev F (tCall sp_w_reach [] E0 t) σ H (.int (reachF l qs m.toNat : Nat)) := ev_callD (ι := (List Cm) × (List Qu) × (Int)) (ok := fun x => 0 ≤ (x.2.2) ∧ QsOk (x.2.1)) (l, qs, m) h rfl o
theorem ev_w_mix {i : Int} (h : EvA F t σ H [.int i]) : Ev F (tCall sp_w_mix [] E0 t) σ H (.int (mixF i)) := ev_callD (ι := (Int)) (ok := fun x => True) (i) h rfl trivial
theorem ev_w_number {i : Int} (h : EvA F t σ H [.int i]) : Ev F (tCall sp_w_number [] E0 t) σ H (.int (numF i)) := ev_callD (ι := (Int)) (ok := fun x => True) (i) h rfl trivial
theorem ev_w_is_integer {d : D} (h : EvA F t σ H [d]) (o : d.fit false 5 = true) : Ev F (tCall sp_w_is_integer [] E0 t) σ H (.bl (isIntD d)) := ev_callD (ι := (D)) (ok := fun x => (x).fit false 5 = true) (d) h rfl o
theorem ev_w_tells {a : Bool} {b : Bool} (h : EvA F t σ H [.bl a, .bl b]) : Ev F (tCall sp_w_tells [] E0 t) σ H (.bl (decide (a = b))) := ev_callD (ι := (Bool) × (Bool)) (ok := fun x => True) (a, b) h rfl trivial
end
end Le

namespace Le
open PySem PySem.Spec PyProof.Rows L2
local macro_rules | `(tactic| wtm_at "ev1") => `(tactic| first
  | with_reducible exact ev_int | with_reducible exact ev_str | with_reducible exact ev_bl | with_reducible exact ev_non
  | with_reducible apply ev_var | with_reducible apply ev_op | with_reducible apply ev_chain
  | with_reducible apply ev_and | with_reducible apply ev_or | with_reducible apply ev_not
  | with_reducible apply et_and | with_reducible apply et_or | with_reducible apply et_not | with_reducible apply et_test | with_reducible apply et_B | with_reducible apply et_tru
  | with_reducible apply ev_if
  | with_reducible apply ev_tup | with_reducible apply ev_lst | with_reducible apply ea_cons | with_reducible exact ea_nil | with_reducible apply ev_cb
  | with_reducible exact rv_add | with_reducible exact rv_sub | with_reducible exact rv_lt | with_reducible exact rv_le | with_reducible exact rv_gt | with_reducible exact rv_ge
  | with_reducible exact rv_S | with_reducible exact rv_eqS | with_reducible exact rv_neS | with_reducible exact rv_eqI | with_reducible exact rv_neI | with_reducible exact rv_isN | with_reducible exact rv_notN | with_reducible exact rv_isB
  | with_reducible apply rv_ixT | with_reducible apply rv_ixL
  | with_reducible exact rc_lenL | with_reducible exact rc_lenT | with_reducible exact rc_list | with_reducible exact rc_tuple | with_reducible exact rc_intI | with_reducible exact rc_intB | with_reducible exact rc_min | with_reducible exact rc_max
  | wtm_at "evc"
  | (with_reducible apply dv_id; assumption) | (with_reducible apply dv_mono; assumption)
  | (with_reducible intro _) | exact rfl | (with_reducible apply le_id; exact Nat.le_of_ble_eq_true rfl))
local macro_rules | `(tactic| wtm_at "ev") => `(tactic| repeat' (wtm_at "ev1"))
local macro_rules | `(tactic| wtm_at "jj") => `(tactic| first | assumption | exact Ext.j (by assumption))
local macro_rules | `(tactic| wtm_at "evc") => `(tactic| first | with_reducible apply ev_contains | with_reducible apply ev_includes | with_reducible apply ev_touches | with_reducible apply ev_cover_of | with_reducible apply ev_w_cover_of | with_reducible apply ev_w_within | with_reducible apply ev_w_touches | with_reducible apply ev_least_record | with_reducible apply ev_selected | with_reducible apply ev_w_rows | with_reducible apply ev_ask | with_reducible apply ev_w_ask | with_reducible apply ev_apply | with_reducible apply ev_at | with_reducible apply ev_w_at | with_reducible apply ev_results | with_reducible apply ev_w_results | with_reducible apply ev_is_answer_at | with_reducible apply ev_is_true_at | with_reducible apply ev_is_true | with_reducible apply ev_w_is_true | with_reducible apply ev_supports_newest | with_reducible apply ev_supports | with_reducible apply ev_w_supports | with_reducible apply ev_accepts | with_reducible apply ev_w_accepts | with_reducible apply ev_w_is_right | with_reducible apply ev_w_reach | with_reducible apply ev_w_mix | with_reducible apply ev_w_number | with_reducible apply ev_w_is_integer | with_reducible apply ev_w_tells)
section
variable {P : Program} {w : World} {K : PySem.W.Frag} {mg : Str → Option Value} {base : Heap}
theorem sc_contains : FnScope ["cover", "key"] ["cover", "key"] d_contains.scope := ⟨rfl, rfl, rfl, by decide +kernel, rfl, by decide +kernel, by decide +kernel⟩
theorem g_contains (T : Tx K mg)  : Good P w K mg base 1 "contains" ["cover", "key"] sp_contains := by
  refine good_def (D_contains T.c) (T.glo _ (F_g_contains T.c)) (fun _ _ _ _ _ _ us hl => match us, hl with | [_, _], _ => rfl) sc_contains (len_G fun _ => rfl) ⟨_, fun f cdv A outer s H E hr =>
    (pss_one (ps_ret (pe_chain op_leS op_leS (pe_ix (k_ix_tup (K := K) rfl) (pv 0) pe_int (fun _ _ => rfl)) (pv 1) (pe_ix (k_ix_tup (K := K) rfl) (pv 0) pe_int (fun _ _ => rfl))))), ?_⟩
  rintro vs H Q E ⟨F, ⟨c, k⟩, j, hv, _, kk⟩
  obtain ⟨v1, v2, rfl, h1, h2⟩ := hv.two
  apply s_retK j
  · wtm_at "ev"
  · exact kk
  · rfl
theorem sc_includes : FnScope ["outer", "inner"] ["outer", "inner"] d_includes.scope := ⟨rfl, rfl, rfl, by decide +kernel, rfl, by decide +kernel, by decide +kernel⟩
theorem g_includes (T : Tx K mg) (G_contains : Good P w K mg base 1 "contains" ["cover", "key"] sp_contains) : Good P w K mg base 2 "includes" ["outer", "inner"] sp_includes := by
  refine good_def (D_includes T.c) (T.glo _ (F_g_includes T.c)) (fun _ _ _ _ _ _ us hl => match us, hl with | [_, _], _ => rfl) sc_includes (len_G fun _ => rfl) ⟨_, fun f cdv A outer s H E hr =>
    (pss_cons (ps_if (pt_cmpR op_gtS (pe_ix (k_ix_tup (K := K) rfl) (pv 1) pe_int (fun _ _ => rfl)) (pe_ix (k_ix_tup (K := K) rfl) (pv 1) pe_int (fun _ _ => rfl)) (nomark _)) (pss_one (ps_ret pe_bl)) pss_nil)
      (pss_one (ps_ret (pe_and (pe_cG G_contains hr rfl (pa_cons (pv 0) (pa_cons (pe_ix (k_ix_tup (K := K) rfl) (pv 1) pe_int (fun _ _ => rfl)) pa_nil))) (pe_one (pe_cG G_contains hr rfl (pa_cons (pv 0) (pa_cons (pe_ix (k_ix_tup (K := K) rfl) (pv 1) pe_int (fun _ _ => rfl)) pa_nil)))))))), ?_⟩
  rintro vs H Q E ⟨F, ⟨o, i⟩, j, hv, _, kk⟩
  obtain ⟨v1, v2, rfl, h1, h2⟩ := hv.two
  apply s_ifS j
  · wtm_at "ev"
  · intro hb H2 e2
    apply s_retK e2.j
    · wtm_at "ev"
    · exact fun v H3 e hv => kk v H3 (e2.trans e) hv
    · show D.bl true = .bl (incl o i)
      unfold incl
      rw [if_pos hb]
  · intro hb H2 e2
    apply s_retK e2.j
    · wtm_at "ev"
    · exact fun v H3 e hv => kk v H3 (e2.trans e) hv
    · show D.bl (inC o i.1 && inC o i.2) = .bl (incl o i)
      unfold incl
      rw [hb]
      rfl
theorem sc_cover_of : FnScope ["question"] ["question"] d_cover_of.scope := ⟨rfl, rfl, rfl, by decide +kernel, rfl, by decide +kernel, by decide +kernel⟩
theorem g_cover_of (T : Tx K mg)  : Good P w K mg base 1 "cover_of" ["question"] sp_cover_of := by
  refine good_def (D_cover_of T.c) (T.glo _ (F_g_cover_of T.c)) (fun _ _ _ _ _ _ us hl => match us, hl with | [_], _ => rfl) sc_cover_of (len_G fun _ => rfl) ⟨_, fun f cdv A outer s H E hr =>
    (pss_cons (ps_if (pt_cmpR op_eq (pe_ix (k_ix_tup (K := K) rfl) (pv 0) pe_int (fun _ _ => rfl)) pe_str (nomark _)) (pss_one (ps_ret (pe_tup (pa_cons (pe_ix (k_ix_tup (K := K) rfl) (pv 0) pe_int (fun _ _ => rfl)) (pa_cons (pe_ix (k_ix_tup (K := K) rfl) (pv 0) pe_int (fun _ _ => rfl)) pa_nil))))) pss_nil)
      (pss_one (ps_ret (pe_tup (pa_cons (pe_ix (k_ix_tup (K := K) rfl) (pv 0) pe_int (fun _ _ => rfl)) (pa_cons (pe_ix (k_ix_tup (K := K) rfl) (pv 0) pe_int (fun _ _ => rfl)) pa_nil)))))), ?_⟩
  rintro vs H Q E ⟨F, q, j, hv, _, kk⟩
  obtain ⟨v1, rfl, h1⟩ := hv.one
  cases q with
  | get k =>
    apply s_ifTS j
    · wtm_at "ev"
    · decide
    · intro H2 e2
      apply s_retK e2.j
      · wtm_at "ev"
      · exact fun v H3 e hv => kk v H3 (e2.trans e) hv
      · rfl
  | _ c =>
    apply s_ifFS j
    · wtm_at "ev"
    · decide
    · intro H2 e2
      apply s_retK e2.j
      · wtm_at "ev"
      · exact fun v H3 e hv => kk v H3 (e2.trans e) hv
      · rfl
theorem sc_touches : FnScope ["group", "cover", "key", "_"] ["group", "cover"] d_touches.scope := ⟨rfl, rfl, rfl, by decide +kernel, rfl, by decide +kernel, by decide +kernel⟩
theorem g_touches (T : Tx K mg) (G_contains : Good P w K mg base 1 "contains" ["cover", "key"] sp_contains) : Good P w K mg base 2 "touches" ["group", "cover"] sp_touches := by
  refine good_def (D_touches T.c) (T.glo _ (F_g_touches T.c)) (fun _ _ _ _ _ _ us hl => match us, hl with | [_, _], _ => rfl) sc_touches (len_G fun _ => rfl) ⟨_, fun f cdv A outer s H E hr =>
    (pss_cons (ps_for PassesOwn.never rfl (k_pi_tup (K := K) rfl (pv 0)) (k_pg_tup (K := K) (n := 2) rfl rfl (pgs_cons (pg_name (i := 2) sc_touches.nd rfl (Or.inl rfl)) (pgs_cons (pg_name (i := 3) sc_touches.nd rfl (Or.inl rfl)) pgs_nil))) (pss_one (ps_if (pt_val (pe_cG G_contains hr rfl (pa_cons (pv 1) (pa_cons (pv 2) pa_nil)))) (pss_one (ps_ret pe_bl)) pss_nil)))
      (pss_one (ps_ret pe_bl))), ?_⟩
  rintro vs H Q E ⟨F, ⟨g, c⟩, j, hv, _, kk⟩
  obtain ⟨v1, v2, rfl, h1, h2⟩ := hv.two
  apply s_forTS j (Pv := fun i σ' H' => ∃ a b, σ' = [some v1, some v2, a, b] ∧ ∀ w, w ∈ g.take i → inC c w.1 = false)
  · wtm_at "ev"
  · intro H2 e2
    exact ⟨none, none, rfl, fun w hw => by cases hw⟩
  · rintro i d v σ' H' hi e' ⟨a, b, rfl, hall⟩ hv
    rw [List.getElem?_map] at hi
    obtain ⟨w, hw, rfl⟩ := Option.map_eq_some_iff.mp hi
    refine g_unp2 hv fun x y hx hy => ?_
    apply s_ifN e'.j
    · wtm_at "ev"
    · intro hb H2 e2
      apply s_retK e2.j
      · wtm_at "ev"
      · exact fun v H3 e hv => kk v H3 ((e'.trans e2).trans e) hv
      · exact congrArg D.bl (List.any_eq_true.mpr ⟨w, List.mem_of_getElem? hw, hb⟩).symm
    · intro hb H2 e2
      refine ⟨e2, _, _, rfl, fun z hz => ?_⟩
      rw [List.take_succ, hw] at hz
      rcases List.mem_append.mp hz with hz | hz
      · exact hall z hz
      · rw [show z = w by simpa using hz]
        exact hb
  · rintro σ' H' e' ⟨a, b, rfl, hall⟩
    apply s_retK e'.j
    · wtm_at "ev"
    · exact fun v H3 e hv => kk v H3 (e'.trans e) hv
    · rw [List.length_map, List.take_length] at hall
      have z : tch g c = false := List.any_eq_false.mpr fun w hw => by rw [hall w hw]; decide
      exact congrArg D.bl z.symm
end
end Le

namespace Le
open PySem PySem.Spec PyProof.Rows L2
local macro_rules | `(tactic| wtm_at "ev1") => `(tactic| first
  | with_reducible exact ev_int | with_reducible exact ev_str | with_reducible exact ev_bl | with_reducible exact ev_non
  | with_reducible apply ev_var | with_reducible apply ev_op | with_reducible apply ev_chain
  | with_reducible apply ev_and | with_reducible apply ev_or | with_reducible apply ev_not
  | with_reducible apply et_and | with_reducible apply et_or | with_reducible apply et_not | with_reducible apply et_test | with_reducible apply et_B | with_reducible apply et_tru
  | with_reducible apply ev_if
  | with_reducible apply ev_tup | with_reducible apply ev_lst | with_reducible apply ea_cons | with_reducible exact ea_nil | with_reducible apply ev_cb
  | with_reducible exact rv_add | with_reducible exact rv_sub | with_reducible exact rv_lt | with_reducible exact rv_le | with_reducible exact rv_gt | with_reducible exact rv_ge
  | with_reducible exact rv_S | with_reducible exact rv_eqS | with_reducible exact rv_neS | with_reducible exact rv_eqI | with_reducible exact rv_neI | with_reducible exact rv_isN | with_reducible exact rv_notN | with_reducible exact rv_isB
  | with_reducible apply rv_ixT | with_reducible apply rv_ixL
  | with_reducible exact rc_lenL | with_reducible exact rc_lenT | with_reducible exact rc_list | with_reducible exact rc_tuple | with_reducible exact rc_intI | with_reducible exact rc_intB | with_reducible exact rc_min | with_reducible exact rc_max
  | wtm_at "evc"
  | (with_reducible apply dv_id; assumption) | (with_reducible apply dv_mono; assumption)
  | (with_reducible intro _) | exact rfl | (with_reducible apply le_id; exact Nat.le_of_ble_eq_true rfl))
local macro_rules | `(tactic| wtm_at "ev") => `(tactic| repeat' (wtm_at "ev1"))
local macro_rules | `(tactic| wtm_at "jj") => `(tactic| first | assumption | exact Ext.j (by assumption))
local macro_rules | `(tactic| wtm_at "evc") => `(tactic| first | with_reducible apply ev_contains | with_reducible apply ev_includes | with_reducible apply ev_touches | with_reducible apply ev_cover_of | with_reducible apply ev_w_cover_of | with_reducible apply ev_w_within | with_reducible apply ev_w_touches | with_reducible apply ev_least_record | with_reducible apply ev_selected | with_reducible apply ev_w_rows | with_reducible apply ev_ask | with_reducible apply ev_w_ask | with_reducible apply ev_apply | with_reducible apply ev_at | with_reducible apply ev_w_at | with_reducible apply ev_results | with_reducible apply ev_w_results | with_reducible apply ev_is_answer_at | with_reducible apply ev_is_true_at | with_reducible apply ev_is_true | with_reducible apply ev_w_is_true | with_reducible apply ev_supports_newest | with_reducible apply ev_supports | with_reducible apply ev_w_supports | with_reducible apply ev_accepts | with_reducible apply ev_w_accepts | with_reducible apply ev_w_is_right | with_reducible apply ev_w_reach | with_reducible apply ev_w_mix | with_reducible apply ev_w_number | with_reducible apply ev_w_is_integer | with_reducible apply ev_w_tells)
/-- sorted(list(d)) -/
theorem rc_sortedK {F : Fr} {K : PySem.W.Frag} {σ : L2.St} {H : Hp} {te : TE} {r : Rec} (h : Ev F te σ H (.dic r)) (ok : RecOk r) :
    ∀ H1, Ext F H H1 → ∀ Q : VK, (∀ (ys : List Str) p H2, ys.Perm (ktxt r) → sortedS ys = true → H1 p = none → Ext F H1 H2 → H2 p = some (.lst (ys.map V.str)) → Q (.ref p) H2) →
      tCB (rSortedS K) (tCons (tCB (fun xs H Q => ∃ p kvs, xs = [V.ref p] ∧ H p = some (.dK kvs) ∧ ∀ q, H q = none → Q (.ref q) (upd H q (.lst (kvs.map fun kv => kV kv.1)))) (tCons te tNil)) tNil) σ H1 Q := fun H1 e Q q =>
  h H1 e _ fun v H2 e2 hv => by
    obtain ⟨a, rfl, s, ha⟩ := hv.dic_inv
    refine ⟨a, r, rfl, ha, fun p hp => ?_⟩
    refine ⟨p, ktxt r, rfl, SqL.of (by rw [upd_same, ktxt_keys ok]), by unfold ktxt; rw [List.length_map]; exact ok.small, fun ys p2 hperm hs hp2 => ?_⟩
    have n : p2 ≠ p := fun z => by rw [z, upd_same] at hp2; cases hp2
    have hp2' : H2 p2 = none := by rw [upd_ne n] at hp2; exact hp2
    exact q ys p2 _ hperm hs (e2.back hp2') ((e2.new hp).new hp2) upd_same
theorem dva_str {F : Fr} {H : Hp} : ∀ ys : List Str, DvA F H (ys.map V.str) (ys.map D.str)
  | [] => .nil
  | y :: ys => .cons (.str y) (dva_str ys)
section
variable {P : Program} {w : World} {K : PySem.W.Frag} {mg : Str → Option Value} {base : Heap}
theorem sc_w_cover_of : FnScope ["_law_question_here"] ["_law_question_here"] d_w_cover_of.scope := ⟨rfl, rfl, rfl, by decide +kernel, rfl, by decide +kernel, by decide +kernel⟩
theorem g_w_cover_of (T : Tx K mg)  : Good P w K mg base 1 "_law_cover_of" ["_law_question_here"] sp_w_cover_of := by
  refine good_def (D_w_cover_of T.c) (T.glo _ (F_g_w_cover_of T.c)) (fun _ _ _ _ _ _ us hl => match us, hl with | [_], _ => rfl) sc_w_cover_of (len_G fun _ => rfl) ⟨_, fun f cdv A outer s H E hr =>
    (pss_one (ps_ret (pe_ifExp (pt_cmpR op_eq (pe_ix (k_ix_tup (K := K) rfl) (pv 0) pe_int (fun _ _ => rfl)) pe_str (nomark _)) (pe_tup (pa_cons (pe_ix (k_ix_tup (K := K) rfl) (pv 0) pe_int (fun _ _ => rfl)) (pa_cons (pe_ix (k_ix_tup (K := K) rfl) (pv 0) pe_int (fun _ _ => rfl)) pa_nil))) (pe_tup (pa_cons (pe_ix (k_ix_tup (K := K) rfl) (pv 0) pe_int (fun _ _ => rfl)) (pa_cons (pe_ix (k_ix_tup (K := K) rfl) (pv 0) pe_int (fun _ _ => rfl)) pa_nil)))))), ?_⟩
  rintro vs H Q E ⟨F, q, j, hv, _, kk⟩
  obtain ⟨v1, rfl, h1⟩ := hv.one
  cases q with
  | get k =>
    apply s_retK j
    · apply ev_ifT
      · wtm_at "ev"
      · decide
      · wtm_at "ev"
    · exact kk
    · rfl
  | _ c =>
    apply s_retK j
    · apply ev_ifF
      · wtm_at "ev"
      · decide
      · wtm_at "ev"
    · exact kk
    · rfl
theorem sc_w_within : FnScope ["_law_outer", "_law_inner"] ["_law_outer", "_law_inner"] d_w_within.scope := ⟨rfl, rfl, rfl, by decide +kernel, rfl, by decide +kernel, by decide +kernel⟩
theorem g_w_within (T : Tx K mg)  : Good P w K mg base 1 "_law_within" ["_law_outer", "_law_inner"] sp_w_within := by
  refine good_def (D_w_within T.c) (T.glo _ (F_g_w_within T.c)) (fun _ _ _ _ _ _ us hl => match us, hl with | [_, _], _ => rfl) sc_w_within (len_G fun _ => rfl) ⟨_, fun f cdv A outer s H E hr =>
    (pss_cons (ps_if (pt_cmpR op_gtS (pe_ix (k_ix_tup (K := K) rfl) (pv 1) pe_int (fun _ _ => rfl)) (pe_ix (k_ix_tup (K := K) rfl) (pv 1) pe_int (fun _ _ => rfl)) (nomark _)) (pss_one (ps_ret pe_bl)) pss_nil)
      (pss_one (ps_ret (pe_and (pe_cmpR op_leS (pe_ix (k_ix_tup (K := K) rfl) (pv 0) pe_int (fun _ _ => rfl)) (pe_ix (k_ix_tup (K := K) rfl) (pv 1) pe_int (fun _ _ => rfl)) (nomark _)) (pe_one (pe_cmpR op_leS (pe_ix (k_ix_tup (K := K) rfl) (pv 1) pe_int (fun _ _ => rfl)) (pe_ix (k_ix_tup (K := K) rfl) (pv 0) pe_int (fun _ _ => rfl)) (nomark _))))))), ?_⟩
  rintro vs H Q E ⟨F, ⟨o, i⟩, j, hv, _, kk⟩
  obtain ⟨v1, v2, rfl, h1, h2⟩ := hv.two
  apply s_ifS j
  · wtm_at "ev"
  · intro hb H2 e2
    apply s_retK e2.j
    · wtm_at "ev"
    · exact fun v H3 e hv => kk v H3 (e2.trans e) hv
    · show D.bl true = .bl (within o i)
      unfold within
      rw [if_pos hb]
  · intro hb H2 e2
    apply s_retK e2.j
    · wtm_at "ev"
    · exact fun v H3 e hv => kk v H3 (e2.trans e) hv
    · show D.bl (leS o.1 i.1 && leS i.2 o.2) = .bl (within o i)
      unfold within
      rw [hb]
      rfl
theorem sc_w_touches : FnScope ["_law_group_here", "_law_covers", "_law_key_here", "_law_value", "_law_first", "_law_last"] ["_law_group_here", "_law_covers"] d_w_touches.scope := ⟨rfl, rfl, rfl, by decide +kernel, rfl, by decide +kernel, by decide +kernel⟩
theorem g_w_touches (T : Tx K mg)  : Good P w K mg base 1 "_law_touches" ["_law_group_here", "_law_covers"] sp_w_touches := by
  refine good_def (D_w_touches T.c) (T.glo _ (F_g_w_touches T.c)) (fun _ _ _ _ _ _ us hl => match us, hl with | [_, _], _ => rfl) sc_w_touches (len_G fun _ => rfl) ⟨_, fun f cdv A outer s H E hr =>
    (pss_cons (ps_for PassesOwn.never rfl (k_pi_tup (K := K) rfl (pv 0)) (k_pg_tup (K := K) (n := 2) rfl rfl (pgs_cons (pg_name (i := 2) sc_w_touches.nd rfl (Or.inl rfl)) (pgs_cons (pg_name (i := 3) sc_w_touches.nd rfl (Or.inl rfl)) pgs_nil))) (pss_one (ps_for PassesOwn.never rfl (k_pi_list (K := K) rfl (pv 1)) (k_pg_tup (K := K) (n := 2) rfl rfl (pgs_cons (pg_name (i := 4) sc_w_touches.nd rfl (Or.inl rfl)) (pgs_cons (pg_name (i := 5) sc_w_touches.nd rfl (Or.inl rfl)) pgs_nil))) (pss_one (ps_if (PW.pt (pw_and (pt_cmpR op_leS (pv 4) (pv 2) (nomark _)) (pw_and1 (pt_cmpR op_leS (pv 2) (pv 5) (nomark _))))) (pss_one (ps_ret pe_bl)) pss_nil)))))
      (pss_one (ps_ret pe_bl))), ?_⟩
  rintro vs H Q E ⟨F, ⟨g, cs⟩, j, hv, _, kk⟩
  obtain ⟨v1, v2, rfl, h1, h2⟩ := hv.two
  apply s_forTS j (Pv := fun i σ' H' => ∃ a b c d, σ' = [some v1, some v2, a, b, c, d] ∧ ∀ w, w ∈ g.take i → ∀ c, c ∈ cs → inC c w.1 = false)
  · wtm_at "ev"
  · intro H2 e2
    exact ⟨none, none, none, none, rfl, fun w hw => by cases hw⟩
  · rintro i d v σ' H' hi e' ⟨a, b, c, d, rfl, hall⟩ hv
    rw [List.getElem?_map] at hi
    obtain ⟨w, hw, rfl⟩ := Option.map_eq_some_iff.mp hi
    refine g_unp2 hv fun x y hx hy => ?_
    apply s_forL e'.j (Pv := fun i σ' H' => ∃ c d, σ' = [some v1, some v2, some x, some y, c, d] ∧ ∀ c, c ∈ cs.take i → inC c w.1 = false)
    · wtm_at "ev"
    · intro H2 e2
      exact ⟨_, _, rfl, fun w hw => by cases hw⟩
    · rintro i2 d2 v2' σ2 H2 hi2 e2 ⟨c2, d2', rfl, hall2⟩ hv2
      rw [List.getElem?_map] at hi2
      obtain ⟨cc, hc, rfl⟩ := Option.map_eq_some_iff.mp hi2
      refine g_unp2 hv2 fun x2 y2 hx2 hy2 => ?_
      apply s_ifN e2.j
      · wtm_at "ev"
      · intro hb H3 e3
        apply s_retK e3.j
        · wtm_at "ev"
        · exact fun v H4 e hv => kk v H4 (((e'.trans e2).trans e3).trans e) hv
        · exact congrArg D.bl (List.any_eq_true.mpr ⟨cc, List.mem_of_getElem? hc, List.any_eq_true.mpr ⟨w, List.mem_of_getElem? hw, hb⟩⟩).symm
      · intro hb H3 e3
        refine ⟨e3, _, _, rfl, fun z hz => ?_⟩
        rw [List.take_succ, hc] at hz
        rcases List.mem_append.mp hz with hz | hz
        · exact hall2 z hz
        · rw [show z = cc by simpa using hz]
          exact hb
    · rintro σ2 H2 e2 ⟨c2, d2, rfl, hall2⟩
      rw [List.length_map, List.take_length] at hall2
      refine ⟨e2, _, _, _, _, rfl, fun z hz => ?_⟩
      rw [List.take_succ, hw] at hz
      rcases List.mem_append.mp hz with hz | hz
      · exact hall z hz
      · rw [show z = w by simpa using hz]
        exact hall2
  · rintro σ' H' e' ⟨a, b, c, d, rfl, hall⟩
    apply s_retK e'.j
    · wtm_at "ev"
    · exact fun v H3 e hv => kk v H3 (e'.trans e) hv
    · rw [List.length_map, List.take_length] at hall
      have z : cs.any (tch g) = false := List.any_eq_false.mpr fun c hc => by
        have z : tch g c = false := List.any_eq_false.mpr fun w hw => by rw [hall w hw c hc]; decide
        rw [z]
        decide
      exact congrArg D.bl z.symm
theorem sc_least_record : FnScope ["rows", "best", "key", "value"] ["rows"] d_least_record.scope := ⟨rfl, rfl, rfl, by decide +kernel, rfl, by decide +kernel, by decide +kernel⟩
theorem g_least_record (T : Tx K mg)  : Good P w K mg base 1 "least_record" ["rows"] sp_least_record := by
  refine good_def (D_least_record T.c) (T.glo _ (F_g_least_record T.c)) (fun _ _ _ _ _ _ us hl => match us, hl with | [_], _ => rfl) sc_least_record (len_G fun _ => rfl) ⟨_, fun f cdv A outer s H E hr =>
    (pss_cons (ps_set (i := 1) sc_least_record.nd rfl (Or.inl rfl) pe_non)
      (pss_cons (ps_for PassesOwn.never rfl (k_pi_list (K := K) rfl (pv 0)) (k_pg_tup (K := K) (n := 2) rfl rfl (pgs_cons (pg_name (i := 2) sc_least_record.nd rfl (Or.inl rfl)) (pgs_cons (pg_name (i := 3) sc_least_record.nd rfl (Or.inl rfl)) pgs_nil))) (pss_one (ps_if (PW.pt (pw_or (pt_cmpR op_isN' (pv 1) pe_non (nomark _)) (pw_or1 (pt_cmpR op_lt (pv 3) (pe_ix (k_ix_tup (K := K) rfl) (pv 1) pe_int (fun _ _ => rfl)) (nomark _))))) (pss_one (ps_set (i := 1) sc_least_record.nd rfl (Or.inl rfl) (pe_tup (pa_cons (pv 2) (pa_cons (pv 3) pa_nil))))) pss_nil)))
      (pss_one (ps_ret (pv 1))))), ?_⟩
  rintro vs H Q E ⟨F, rs, j, hv, _, kk⟩
  obtain ⟨v1, rfl, h1⟩ := hv.one
  apply s_setS j
  · wtm_at "ev"
  intro vb H2 e2 hb
  apply s_forLS e2.j (Pv := fun i σ' H' => ∃ b a c o, σ' = [some v1, some b, a, c] ∧ Dv F H' b (oRow o) ∧ leastF (rs.drop i) o = leastF rs none)
  · wtm_at "ev"
  · intro H3 e3
    exact ⟨vb, none, none, none, rfl, hb.mono e3, rfl⟩
  · rintro i d v σ' H' hi e' ⟨b, a, c, o, rfl, ho, hl⟩ hv
    rw [List.getElem?_map] at hi
    obtain ⟨r, hr, rfl⟩ := Option.map_eq_some_iff.mp hi
    have hd : rs.drop i = r :: rs.drop (i + 1) := by
      obtain ⟨hlt, e⟩ := List.getElem?_eq_some_iff.mp hr
      rw [List.drop_eq_getElem_cons hlt, e]
    rw [hd] at hl
    refine g_unp2 hv fun x y hx hy => ?_
    cases o with
    | none =>
      refine s_ifN (b := true) e'.j ?_ ?_ ?_
      · have z : EvT F (tOr (tTest (tOp rIsN' (tVar 1) (tC V.non))) (tTest (tOp (rI0 fun i j => .bl (decide (i < j))) (tVar 3) (tOp (rIxT K) (tVar 1) (tC (.int 1)))))) [some v1, some b, some x, some y] H' (true || false) := by
          apply et_or
          · apply et_test
            apply ev_op (d1 := D.non)
            · exact ev_var rfl ho
            · exact ev_non
            · exact rv_isN
          · intro z
            cases z
        exact z
      · intro _ H3 e3
        refine s_set e3.j (d := kRow r) ?_ fun v H4 e4 hv4 => ?_
        · wtm_at "ev"
        · exact ⟨e3.trans e4, v, _, _, some r, rfl, hv4, hl⟩
      · intro z
        cases z
    | some b0 =>
      refine s_ifN (b := decide (r.2 < b0.2)) e'.j ?_ ?_ ?_
      · have z : EvT F (tOr (tTest (tOp rIsN' (tVar 1) (tC V.non))) (tTest (tOp (rI0 fun i j => .bl (decide (i < j))) (tVar 3) (tOp (rIxT K) (tVar 1) (tC (.int 1)))))) [some v1, some b, some x, some y] H' (false || decide (r.2 < b0.2)) := by
          have ho2 : Dv F H' b (kRow b0) := ho
          apply et_or
          · apply et_test
            apply ev_op (d1 := kRow b0)
            · exact ev_var rfl ho2
            · exact ev_non
            · exact rv_isN
          · intro _
            wtm_at "ev"
        exact z
      · intro hlt H3 e3
        refine s_set e3.j (d := kRow r) ?_ fun v H4 e4 hv4 => ?_
        · wtm_at "ev"
        · refine ⟨e3.trans e4, v, _, _, some r, rfl, hv4, ?_⟩
          have hl2 : leastF (rs.drop (i + 1)) (if r.2 < b0.2 then some r else some b0) = leastF rs none := hl
          rw [if_pos (of_decide_eq_true hlt)] at hl2
          exact hl2
      · intro hge H3 e3
        refine ⟨e3, b, _, _, some b0, rfl, ho.mono e3, ?_⟩
        have hl2 : leastF (rs.drop (i + 1)) (if r.2 < b0.2 then some r else some b0) = leastF rs none := hl
        rw [if_neg (of_decide_eq_false hge)] at hl2
        exact hl2
  · rintro σ' H' e' ⟨b, a, c, o, rfl, ho, hl⟩
    apply s_retK e'.j
    · wtm_at "ev"
    · exact fun v H3 e hv => kk v H3 ((e2.trans e').trans e) hv
    · rw [List.length_map, List.drop_length] at hl
      have hl2 : o = leastF rs none := hl
      rw [hl2]
end
end Le

namespace Le
open PySem PySem.Spec PyProof.Rows L2
local macro_rules | `(tactic| wtm_at "ev1") => `(tactic| first
  | with_reducible exact ev_int | with_reducible exact ev_str | with_reducible exact ev_bl | with_reducible exact ev_non
  | with_reducible apply ev_var | with_reducible apply ev_op | with_reducible apply ev_chain
  | with_reducible apply ev_and | with_reducible apply ev_or | with_reducible apply ev_not
  | with_reducible apply et_and | with_reducible apply et_or | with_reducible apply et_not | with_reducible apply et_test | with_reducible apply et_B | with_reducible apply et_tru
  | with_reducible apply ev_if
  | with_reducible apply ev_tup | with_reducible apply ev_lst | with_reducible apply ea_cons | with_reducible exact ea_nil | with_reducible apply ev_cb
  | with_reducible exact rv_add | with_reducible exact rv_sub | with_reducible exact rv_lt | with_reducible exact rv_le | with_reducible exact rv_gt | with_reducible exact rv_ge
  | with_reducible exact rv_S | with_reducible exact rv_eqS | with_reducible exact rv_neS | with_reducible exact rv_eqI | with_reducible exact rv_neI | with_reducible exact rv_isN | with_reducible exact rv_notN | with_reducible exact rv_isB
  | with_reducible apply rv_ixT | with_reducible apply rv_ixL
  | with_reducible exact rc_lenL | with_reducible exact rc_lenT | with_reducible exact rc_list | with_reducible exact rc_tuple | with_reducible exact rc_intI | with_reducible exact rc_intB | with_reducible exact rc_min | with_reducible exact rc_max
  | wtm_at "evc"
  | (with_reducible apply dv_id; assumption) | (with_reducible apply dv_mono; assumption) | with_reducible apply dv_pin
  | (with_reducible intro _) | exact rfl | (with_reducible apply le_id; exact Nat.le_of_ble_eq_true rfl))
local macro_rules | `(tactic| wtm_at "ev") => `(tactic| repeat' (wtm_at "ev1"))
local macro_rules | `(tactic| wtm_at "jj") => `(tactic| first | assumption | exact Ext.j (by assumption))
local macro_rules | `(tactic| wtm_at "evc") => `(tactic| first | with_reducible apply ev_contains | with_reducible apply ev_includes | with_reducible apply ev_touches | with_reducible apply ev_cover_of | with_reducible apply ev_w_cover_of | with_reducible apply ev_w_within | with_reducible apply ev_w_touches | with_reducible apply ev_least_record | with_reducible apply ev_selected | with_reducible apply ev_w_rows | with_reducible apply ev_ask | with_reducible apply ev_w_ask | with_reducible apply ev_apply | with_reducible apply ev_at | with_reducible apply ev_w_at | with_reducible apply ev_results | with_reducible apply ev_w_results | with_reducible apply ev_is_answer_at | with_reducible apply ev_is_true_at | with_reducible apply ev_is_true | with_reducible apply ev_w_is_true | with_reducible apply ev_supports_newest | with_reducible apply ev_supports | with_reducible apply ev_w_supports | with_reducible apply ev_accepts | with_reducible apply ev_w_accepts | with_reducible apply ev_w_is_right | with_reducible apply ev_w_reach | with_reducible apply ev_w_mix | with_reducible apply ev_w_number | with_reducible apply ev_w_is_integer | with_reducible apply ev_w_tells)
section
variable {P : Program} {w : World} {K : PySem.W.Frag} {mg : Str → Option Value} {base : Heap}
theorem sc_selected : FnScope ["records", "cover", "key"] ["records", "cover"] d_selected.scope := ⟨rfl, rfl, rfl, by decide +kernel, rfl, by decide +kernel, by decide +kernel⟩
theorem g_selected (T : Tx K mg) (G_contains : Good P w K mg base 1 "contains" ["cover", "key"] sp_contains) : Good P w K mg base 2 "selected" ["records", "cover"] sp_selected := by
  refine good_def (D_selected T.c) (T.glo _ (F_g_selected T.c)) (fun _ _ _ _ _ _ us hl => match us, hl with | [_, _], _ => rfl) sc_selected (len_G fun _ => rfl) ⟨_, fun f cdv A outer s H E hr =>
    (pss_one (ps_ret (pe_lc (own := [("key", 2)]) (g := gName 2) (tt := _) rfl sc_selected.nd (k_pi_list (K := K) rfl (pe_callB (k_sorted (K := K) rfl) (by rfl) (T.free _ (F_b_sorted T.c)) (by decide +kernel) (pa_cons (pe_callTy (call_list_dK rfl) (by rfl) (T.free _ (F_b_list T.c)) (by decide +kernel) (pa_cons (pv 0) pa_nil)) pa_nil))) (blkOk_by (own := [("key", 2)]) (N := ["records", "cover", "key"]) (sc := d_selected.scope) (by decide +kernel)) (fun _ _ _ _ _ => pg_name (i := 2) sc_selected.nd rfl (Or.inl rfl)) (fun _ _ _ _ _ => (pts_one (pt_val (pe_cG G_contains hr rfl (pa_cons (pv 1) (pa_cons (pv 2) pa_nil)))))) (fun _ _ _ _ _ => (pe_tup (pa_cons (pv 2) (pa_cons (pe_dget (hu_of hr) (pv 0) (pv 2) (fun _ _ => rfl)) pa_nil))))))), ?_⟩
  rintro vs H Q E ⟨F, ⟨r, c⟩, j, hv, ⟨ok, fu⟩, kk⟩
  obtain ⟨v1, v2, rfl, h1, h2⟩ := hv.two
  apply s_retK j
  · refine (ev_lcL (enc := D.str) (ev_sortedK (r := r) ?_ ok) (inC c) (fun k => .tup [.str k, oD (lk r k)]) ?_ ?_ ?_).toEv
    · wtm_at "ev"
    · intro k _
      show (true && ((oD (lk r k)).imm && true)) = true
      rw [imm_oD]
      rfl
    · have := skeys_len r
      omega
    · intro i k v H' hi e' hv
      refine ⟨_, fun Q q => q, rfl, ?_, fun _ => ?_⟩
      · wtm_at "ev"
      · obtain ⟨x, hx, ho⟩ := skeys_mem ok (List.mem_of_getElem? hi)
        rw [← vD_lk hx ho]
        refine ev_tup (ea_cons ?_ (ea_cons (ev_dget (r := r) (k := k) ?_ ?_ hx fun H1 => dv_vD ho) ea_nil)) (Nat.le_of_ble_eq_true rfl)
        · wtm_at "ev"
        · wtm_at "ev"
        · wtm_at "ev"
  · exact kk
  · exact congrArg D.lst (rows_map ok fu c)
theorem sc_w_rows : FnScope ["_law_records", "_law_cover_here", "_law_found", "_law_key_here"] ["_law_records", "_law_cover_here"] d_w_rows.scope := ⟨rfl, rfl, rfl, by decide +kernel, rfl, by decide +kernel, by decide +kernel⟩
theorem g_w_rows (T : Tx K mg)  : Good P w K mg base 1 "_law_rows" ["_law_records", "_law_cover_here"] sp_w_rows := by
  refine good_def (D_w_rows T.c) (T.glo _ (F_g_w_rows T.c)) (fun _ _ _ _ _ _ us hl => match us, hl with | [_, _], _ => rfl) sc_w_rows (len_G fun _ => rfl) ⟨_, fun f cdv A outer s H E hr =>
    (pss_cons (ps_set (i := 2) sc_w_rows.nd rfl (Or.inl rfl) (pe_lst pa_nil))
      (pss_cons (ps_for PassesOwn.never rfl (k_pi_list (K := K) rfl (pe_callB (k_sorted (K := K) rfl) (by rfl) (T.free _ (F_b_sorted T.c)) (by decide +kernel) (pa_cons (pe_callTy (call_list_dK rfl) (by rfl) (T.free _ (F_b_list T.c)) (by decide +kernel) (pa_cons (pv 0) pa_nil)) pa_nil))) (pg_name (i := 3) sc_w_rows.nd rfl (Or.inl rfl)) (pss_one (ps_if (PW.pt (pw_and (pt_cmpR op_leS (pe_ix (k_ix_tup (K := K) rfl) (pv 1) pe_int (fun _ _ => rfl)) (pv 3) (nomark _)) (pw_and (pt_cmpR op_leS (pv 3) (pe_ix (k_ix_tup (K := K) rfl) (pv 1) pe_int (fun _ _ => rfl)) (nomark _)) (pw_and1 (pt_cmpR op_notN' (pe_dget (hu_of hr) (pv 0) (pv 3) (fun _ _ => rfl)) pe_non (nomark _)))))) (pss_one (ps_expr (k_bm (K := K) rfl PySem.F.plainAttrs_list PySem.F.slot_list_append PySem.F.type_list_append mt_append (pv 2) (pa_cons (pe_tup (pa_cons (pv 3) (pa_cons (pe_dget (hu_of hr) (pv 0) (pv 3) (fun _ _ => rfl)) pa_nil))) pa_nil)))) pss_nil)))
      (pss_one (ps_ret (pv 2))))), ?_⟩
  rintro vs H Q E ⟨F, ⟨r, c⟩, j, hv, ok, kk⟩
  obtain ⟨v1, v2, rfl, h1, h2⟩ := hv.two
  refine s_newS j fun p hp jp => ?_
  have h1' := h1.add (p := p) (o := .lst []) hp
  have h2' := h2.add (p := p) (o := .lst []) hp
  apply s_forLSp Le1.pin jp (Pv := fun i σ' H' => ∃ a xs, σ' = [some v1, some v2, some (.ref p), a] ∧ H' p = some (.lst xs) ∧ DvA (F.add p) H' xs ((((skeys r).take i).filterMap (rowW r c)).map kRow))
  · apply ev_sortedK (r := r) ?_ ok
    wtm_at "ev"
  · intro H2 e2
    exact ⟨none, [], rfl, e2.at_, .nil⟩
  · rintro i d v σ' H' hi e' ⟨a, xs, rfl, hx, hda⟩ hv
    rw [List.getElem?_map] at hi
    obtain ⟨k, hk, rfl⟩ := Option.map_eq_some_iff.mp hi
    have jq := pin_j e'.j hx rfl
    obtain ⟨w, hw, ho⟩ := skeys_mem ok (List.mem_of_getElem? hk)
    have etake : (skeys r).take (i + 1) = (skeys r).take i ++ [k] := by
      rw [List.take_succ, hk]
      rfl
    have elk := vD_lk hw ho
    apply s_ifN (F := F.pin p (.lst xs)) (b := inC c k && !isN (vD w)) (σ := [some v1, some v2, some (.ref p), some v]) jq
    · have z : EvT (F.pin p (.lst xs)) (tAnd (tTest (tOp (rS leS) (tOp (rIxT K) (tVar 1) (tC (V.int 0))) (tVar 3))) (tAnd (tTest (tOp (rS leS) (tVar 3) (tOp (rIxT K) (tVar 1) (tC (V.int 1))))) (tTest (tOp rNotN' (tDGet (tVar 0) (tVar 3)) (tC V.non))))) [some v1, some v2, some (.ref p), some v] H' (leS c.1 k && (leS k c.2 && !isN (vD w))) := by
        apply et_and
        · wtm_at "ev"
        · intro _
          apply et_and
          · wtm_at "ev"
          · intro _
            apply et_test
            refine ev_op (ev_dget (r := r) (k := k) ?_ ?_ hw fun H1 => dv_vD ho) ev_non rv_notN
            · wtm_at "ev"
            · wtm_at "ev"
      rw [← Bool.and_assoc] at z
      exact z
    · intro hb H2 e2
      obtain ⟨hc, hn⟩ := Bool.and_eq_true_iff.mp hb
      obtain ⟨i2, hi2⟩ : ∃ i2, lk r k = some i2 := by
        rw [elk] at hn
        cases q : lk r k with
        | none => rw [q] at hn; cases hn
        | some i2 => exact ⟨i2, rfl⟩
      rw [hi2] at elk
      apply s_app e2.j (d := kRow (k, i2)) rfl
      · refine ev_tup (ea_cons (d := .str k) ?_ (ea_cons (d := .int i2) ?_ ea_nil)) (Nat.le_of_ble_eq_true rfl)
        · wtm_at "ev"
        · refine ev_dget (r := r) (k := k) ?_ ?_ hw fun H1 => ?_
          · wtm_at "ev"
          · wtm_at "ev"
          · have z := dv_vD (F := F.pin p (.lst xs)) (H := H1) ho
            rw [elk] at z
            exact z
      · rw [hda.len, List.length_map]
        have l1 := List.length_filterMap_le (rowW r c) ((skeys r).take i)
        have l2 := skeys_len r
        rw [List.length_take] at l1
        omega
      · intro v3 H3 e3 hv3
        refine ⟨(e2.trans e3).put rfl, _, _, rfl, upd_same, ?_⟩
        rw [etake, List.filterMap_append, List.map_append]
        have em : (([k] : List Str).filterMap (rowW r c)).map kRow = [kRow (k, i2)] := by
          rw [List.filterMap_cons]
          unfold rowW
          rw [hc, if_pos rfl, hi2]
          rfl
        rw [em]
        have tk := tupF (u := .lst (xs ++ [v3])) e3.at_ rfl
        exact ((hda.mono (e2.trans e3).unpin).cast tk (immA_map imm_kRow _)).snoc (hv3.cast tk rfl)
    · intro hb H2 e2
      refine ⟨e2.unpin, _, xs, rfl, e2.at_, ?_⟩
      rw [etake, List.filterMap_append, List.map_append]
      have em : (([k] : List Str).filterMap (rowW r c)).map kRow = [] := by
        rw [List.filterMap_cons]
        unfold rowW
        cases hc : inC c k with
        | false => rfl
        | true =>
          rw [hc, elk] at hb
          cases q : lk r k with
          | none => rfl
          | some i2 => rw [q] at hb; cases hb
      rw [em, List.append_nil]
      exact hda.mono e2.unpin
  · rintro σ' H' e' ⟨a, xs, rfl, hx, hda⟩
    rw [List.length_map, List.take_length, rows_w ok c] at hda
    have eF := Ext.drop' hp e'
    refine ⟨_, rfl, kk _ H' eF (.lst ?_ hx hda.sub)⟩
    exact fun s => F.live j (F.sub s) hp
theorem sc_ask : FnScope ["records", "question", "rows", "_", "value"] ["records", "question"] d_ask.scope := ⟨rfl, rfl, rfl, by decide +kernel, rfl, by decide +kernel, by decide +kernel⟩
theorem g_ask (T : Tx K mg) (G_selected : Good P w K mg base 2 "selected" ["records", "cover"] sp_selected) (G_cover_of : Good P w K mg base 1 "cover_of" ["question"] sp_cover_of) (G_least_record : Good P w K mg base 1 "least_record" ["rows"] sp_least_record) : Good P w K mg base 3 "ask" ["records", "question"] sp_ask := by
  refine good_def (D_ask T.c) (T.glo _ (F_g_ask T.c)) (fun _ _ _ _ _ _ us hl => match us, hl with | [_, _], _ => rfl) sc_ask (len_G fun _ => rfl) ⟨_, fun f cdv A outer s H E hr =>
    (pss_cons (ps_if (pt_cmpR op_eq (pe_ix (k_ix_tup (K := K) rfl) (pv 1) pe_int (fun _ _ => rfl)) pe_str (nomark _)) (pss_one (ps_ret (pe_dget1 (hu_of hr) (pv 0) (pe_ix (k_ix_tup (K := K) rfl) (pv 1) pe_int (fun _ _ => rfl)) ⟨rfl, rfl, rfl, rfl⟩))) pss_nil)
      (pss_cons (ps_set (i := 2) sc_ask.nd rfl (Or.inl rfl) (pe_cG G_selected hr rfl (pa_cons (pv 0) (pa_cons (pe_cG G_cover_of (hr.mono (by decide)) rfl (pa_cons (pv 1) pa_nil)) pa_nil))))
      (pss_cons (ps_if (pt_cmpR op_eq (pe_ix (k_ix_tup (K := K) rfl) (pv 1) pe_int (fun _ _ => rfl)) pe_str (nomark _)) (pss_one (ps_ret (pe_callB (k_len (K := K) rfl) (by rfl) (T.free _ (F_b_len T.c)) (by decide +kernel) (pa_cons (pv 2) pa_nil)))) pss_nil)
      (pss_cons (ps_if (pt_cmpR op_eq (pe_ix (k_ix_tup (K := K) rfl) (pv 1) pe_int (fun _ _ => rfl)) pe_str (nomark _)) (pss_one (ps_ret (pe_callB (k_sum (K := K) rfl rfl) (by rfl) (T.free _ (F_b_sum T.c)) (by decide +kernel) (pa_cons (pe_lc (own := [("_", 3), ("value", 4)]) (g := gTup K 2 (gCons (gName 3) (gCons (gName 4) gNil))) (tt := tYes) rfl sc_ask.nd (k_pi_list (K := K) rfl (pv 2)) (blkOk_by (own := [("_", 3), ("value", 4)]) (N := ["records", "question", "rows", "_", "value"]) (sc := d_ask.scope) (by decide +kernel)) (fun _ _ _ _ _ => (k_pg_tup (K := K) (n := 2) rfl rfl (pgs_cons (pg_name (i := 3) sc_ask.nd rfl (Or.inl rfl)) (pgs_cons (pg_name (i := 4) sc_ask.nd rfl (Or.inl rfl)) pgs_nil)))) (fun _ _ _ _ _ => pts_nil) (fun _ _ _ _ _ => (pv 4))) pa_nil)))) pss_nil)
      (pss_cons (ps_if (pt_cmpR op_eq (pe_ix (k_ix_tup (K := K) rfl) (pv 1) pe_int (fun _ _ => rfl)) pe_str (nomark _)) (pss_one (ps_ret (pe_callTy (k_tuple (K := K) rfl) (by rfl) (T.free _ (F_b_tuple T.c)) (by decide +kernel) (pa_cons (pv 2) pa_nil)))) pss_nil)
      (pss_one (ps_ret (pe_cG G_least_record (hr.mono (by decide)) rfl (pa_cons (pv 2) pa_nil))))))))), ?_⟩
  rintro vs H Q E ⟨F, ⟨r, q⟩, j, hv, ⟨ok, fu⟩, kk⟩
  obtain ⟨v1, v2, rfl, h1, h2⟩ := hv.two
  have isq : ∀ (x : Str) (n : Nat), True := fun _ _ => trivial
  cases q with
  | get k =>
    apply s_ifTS j
    · wtm_at "ev"
    · decide
    · intro H2 e2
      apply s_retK e2.j
      · refine ev_dget1 (r := r) (k := k) (d := oD (lk r k)) ?_ ?_ fun H1 => ?_
        · wtm_at "ev"
        · wtm_at "ev"
        · cases hx : valV r (Sum.inr k) with
          | none =>
            have z : lk r k = none := by
              unfold lk
              rw [hx]
              rfl
            rw [z]
            exact .non
          | some w =>
            have ho := (ok.ks _ (valV_mem hx)).2
            rw [← vD_lk hx ho]
            exact dv_vD ho
      · exact fun v H3 e hv => kk v H3 (e2.trans e) hv
      · rfl
  | cnt c =>
    apply s_ifFS j
    · wtm_at "ev"
    · decide
    intro H2 e2
    apply s_setS e2.j
    · wtm_at "ev"
      exact ⟨ok, fu⟩
    intro v3 H3 e3 h3
    apply s_ifTS e3.j
    · wtm_at "ev"
    · decide
    intro H4 e4
    apply s_retK e4.j
    · wtm_at "ev"
    · exact fun v H5 e hv => kk v H5 (((e2.trans e3).trans e4).trans e) hv
    · rw [List.length_map]
      rfl
  | sum c =>
    apply s_ifFS j
    · wtm_at "ev"
    · decide
    intro H2 e2
    apply s_setS e2.j
    · wtm_at "ev"
      exact ⟨ok, fu⟩
    intro v3 H3 e3 h3
    apply s_ifFS e3.j
    · wtm_at "ev"
    · decide
    intro H4 e4
    apply s_ifTS e4.j
    · wtm_at "ev"
    · decide
    intro H5 e5
    have h3' : Dv F H3 v3 (kRows (rowsF (lk r) c)) := h3
    apply s_retK e5.j
    · refine ev_cb (ea_cons (d := .lst (((rowsF (lk r) c).map (·.2)).map D.int)) ?_ ea_nil) rc_sum
      rw [List.map_map]
      refine (ev_lcM (ws := rowsF (lk r) c) (enc := kRow) ?_ (D.int ∘ fun x => x.2) (fun _ _ => rfl) ?_ ?_).toEv
      · wtm_at "ev"
      · have := rowsF_len (lk r) c
        omega
      · intro i x v H' hi e' hv
        obtain ⟨w1, w2, hw1, hw2, hg⟩ := g_two hv
        refine ⟨_, hg, rfl, ?_⟩
        exact ev_var rfl hw2
    · exact fun v H6 e hv => kk v H6 ((((e2.trans e3).trans e4).trans e5).trans e) hv
    · rfl
  | lst c =>
    apply s_ifFS j
    · wtm_at "ev"
    · decide
    intro H2 e2
    apply s_setS e2.j
    · wtm_at "ev"
      exact ⟨ok, fu⟩
    intro v3 H3 e3 h3
    apply s_ifFS e3.j
    · wtm_at "ev"
    · decide
    intro H4 e4
    apply s_ifFS e4.j
    · wtm_at "ev"
    · decide
    intro H5 e5
    apply s_ifTS e5.j
    · wtm_at "ev"
    · decide
    intro H6 e6
    apply s_retK e6.j
    · wtm_at "ev"
    · exact fun v H7 e hv => kk v H7 (((((e2.trans e3).trans e4).trans e5).trans e6).trans e) hv
    · rfl
  | lea c =>
    apply s_ifFS j
    · wtm_at "ev"
    · decide
    intro H2 e2
    apply s_setS e2.j
    · wtm_at "ev"
      exact ⟨ok, fu⟩
    intro v3 H3 e3 h3
    apply s_ifFS e3.j
    · wtm_at "ev"
    · decide
    intro H4 e4
    apply s_ifFS e4.j
    · wtm_at "ev"
    · decide
    intro H5 e5
    apply s_ifFS e5.j
    · wtm_at "ev"
    · decide
    intro H6 e6
    apply s_retK e6.j
    · wtm_at "ev"
    · exact fun v H7 e hv => kk v H7 (((((e2.trans e3).trans e4).trans e5).trans e6).trans e) hv
    · rfl
end
end Le

namespace Le
open PySem PySem.Spec PyProof.Rows L2
local macro_rules | `(tactic| wtm_at "ev1") => `(tactic| first
  | with_reducible exact ev_int | with_reducible exact ev_str | with_reducible exact ev_bl | with_reducible exact ev_non
  | with_reducible apply ev_var | with_reducible apply ev_op | with_reducible apply ev_chain
  | with_reducible apply ev_and | with_reducible apply ev_or | with_reducible apply ev_not
  | with_reducible apply et_and | with_reducible apply et_or | with_reducible apply et_not | with_reducible apply et_test | with_reducible apply et_B | with_reducible apply et_tru
  | with_reducible apply ev_if
  | with_reducible apply ev_tup | with_reducible apply ev_lst | with_reducible apply ea_cons | with_reducible exact ea_nil | with_reducible apply ev_cb
  | with_reducible exact rv_add | with_reducible exact rv_sub | with_reducible exact rv_lt | with_reducible exact rv_le | with_reducible exact rv_gt | with_reducible exact rv_ge
  | with_reducible exact rv_S | with_reducible exact rv_eqS | with_reducible exact rv_neS | with_reducible exact rv_eqI | with_reducible exact rv_neI | with_reducible exact rv_isN | with_reducible exact rv_notN | with_reducible exact rv_isB
  | with_reducible apply rv_ixT | with_reducible apply rv_ixL
  | with_reducible exact rc_lenL | with_reducible exact rc_lenT | with_reducible exact rc_list | with_reducible exact rc_tuple | with_reducible exact rc_intI | with_reducible exact rc_intB | with_reducible exact rc_min | with_reducible exact rc_max
  | wtm_at "evc"
  | (with_reducible apply dv_id; assumption) | (with_reducible apply dv_mono; assumption) | with_reducible apply dv_pin
  | (with_reducible intro _) | exact rfl | (with_reducible apply le_id; exact Nat.le_of_ble_eq_true rfl))
local macro_rules | `(tactic| wtm_at "ev") => `(tactic| repeat' (wtm_at "ev1"))
local macro_rules | `(tactic| wtm_at "jj") => `(tactic| first | assumption | exact Ext.j (by assumption))
local macro_rules | `(tactic| wtm_at "evc") => `(tactic| first | with_reducible apply ev_contains | with_reducible apply ev_includes | with_reducible apply ev_touches | with_reducible apply ev_cover_of | with_reducible apply ev_w_cover_of | with_reducible apply ev_w_within | with_reducible apply ev_w_touches | with_reducible apply ev_least_record | with_reducible apply ev_selected | with_reducible apply ev_w_rows | with_reducible apply ev_ask | with_reducible apply ev_w_ask | with_reducible apply ev_apply | with_reducible apply ev_at | with_reducible apply ev_w_at | with_reducible apply ev_results | with_reducible apply ev_w_results | with_reducible apply ev_is_answer_at | with_reducible apply ev_is_true_at | with_reducible apply ev_is_true | with_reducible apply ev_w_is_true | with_reducible apply ev_supports_newest | with_reducible apply ev_supports | with_reducible apply ev_w_supports | with_reducible apply ev_accepts | with_reducible apply ev_w_accepts | with_reducible apply ev_w_is_right | with_reducible apply ev_w_reach | with_reducible apply ev_w_mix | with_reducible apply ev_w_number | with_reducible apply ev_w_is_integer | with_reducible apply ev_w_tells)
section
variable {P : Program} {w : World} {K : PySem.W.Frag} {mg : Str → Option Value} {base : Heap}
theorem sc_apply : FnScope ["records", "group", "result", "key", "value"] ["records", "group"] d_apply.scope := ⟨rfl, rfl, rfl, by decide +kernel, rfl, by decide +kernel, by decide +kernel⟩
theorem g_apply (T : Tx K mg)  : Good P w K mg base 1 "apply" ["records", "group"] sp_apply := by
  refine good_def (D_apply T.c) (T.glo _ (F_g_apply T.c)) (fun _ _ _ _ _ _ us hl => match us, hl with | [_, _], _ => rfl) sc_apply (len_G fun _ => rfl) ⟨_, fun f cdv A outer s H E hr =>
    (pss_cons (ps_set (i := 2) sc_apply.nd rfl (Or.inl rfl) (pe_callTy call_dictD (by rfl) (T.free _ (F_b_dict T.c)) (by decide +kernel) (pa_cons (pv 0) pa_nil)))
      (pss_cons (ps_for PassesOwn.never rfl (k_pi_tup (K := K) rfl (pv 1)) (k_pg_tup (K := K) (n := 2) rfl rfl (pgs_cons (pg_name (i := 3) sc_apply.nd rfl (Or.inl rfl)) (pgs_cons (pg_name (i := 4) sc_apply.nd rfl (Or.inl rfl)) pgs_nil))) (pss_one (ps_if (pt_cmpR op_notN' (pv 4) pe_non (nomark _)) (pss_one (ps_dput (hu_of hr) (pv 2) (pv 3) (pv 4) rfl)) (pss_one (ps_if (pt_cmp (pc_din (hu_of hr) (pv 3) (pv 2))) (pss_one (ps_ddel (pv 2) (pv 3))) pss_nil)))))
      (pss_one (ps_ret (pv 2))))), ?_⟩
  rintro vs H Q E ⟨F, ⟨r, g⟩, j, hv, ⟨ok, fu, gk⟩, kk⟩
  obtain ⟨v1, v2, rfl, h1, h2⟩ := hv.two
  apply s_dictS j (r := r)
  · wtm_at "ev"
  intro p H1 e1 hp
  have jp : (F.pin p (.dK r)).J (upd H1 p (.dK r)) := pin_new e1.j hp rfl
  have h2' := (h2.mono e1).add (p := p) (o := .dK r) hp
  have gt : ∀ i, GOk (g.take i) := fun i w hw => gk w (List.mem_of_mem_take hw)
  apply s_forTSp Le1.pin jp (Pv := fun i σ' H' => ∃ a b, σ' = [some v1, some v2, some (.ref p), a, b] ∧ H' p = some (.dK (apR r (g.take i))))
  · wtm_at "ev"
  · intro H2 e2
    exact ⟨none, none, rfl, e2.at_⟩
  · rintro i d v σ' H' hi e' ⟨a, b, rfl, hx⟩ hv
    rw [List.getElem?_map] at hi
    obtain ⟨w, hw, rfl⟩ := Option.map_eq_some_iff.mp hi
    have jq := pin_j e'.j hx rfl
    have okI := apR_ok (gt i) ok fu
    have etake : g.take (i + 1) = g.take i ++ [w] := by
      rw [List.take_succ, hw]
      rfl
    have estep : apR r (g.take (i + 1)) = (match w.2 with
        | some n => putK (apR r (g.take i)) (Sum.inr w.1) (.int n)
        | none => if (valV (apR r (g.take i)) (Sum.inr w.1)).isSome = true then dropK (apR r (g.take i)) (Sum.inr w.1) else apR r (g.take i)) := by
      rw [etake]
      unfold apR
      rw [List.foldl_append]
      rfl
    have small : (apR r (g.take i)).length < 64 := okI.1.small
    refine g_unp2 hv fun x y hxx hyy => ?_
    cases hxx.str_inv
    obtain ⟨wk, wo⟩ := w
    cases wo with
    | some n =>
      have hyy : Dv (F.add p) H' y (.int n) := hyy
      cases hyy.int_inv
      refine ⟨_, rfl, rfl, true, rfl, ?_⟩
      rw [estep]
      exact ⟨_, rfl, _, rfl, _, rfl, p, _, rfl, DPut.k (k := Sum.inr wk) hx (small1000 (by omega)), (Ext.refl e'.j).mut rfl, _, _, rfl, upd_same⟩
    | none =>
      have hyy : Dv (F.add p) H' y .non := hyy
      cases hyy.non_inv
      refine ⟨_, rfl, rfl, false, rfl, ?_⟩
      rw [estep]
      refine ⟨_, rfl, _, rfl, p, _, rfl, DGet.k (k := Sum.inr wk) hx, _, rfl, ?_⟩
      show if (valV (apR r (g.take i)) (Sum.inr wk)).isSome = true then _ else _
      by_cases hs : (valV (apR r (g.take i)) (Sum.inr wk)).isSome = true
      · rw [if_pos hs]
        exact ⟨_, rfl, _, rfl, p, _, Sum.inr wk, rfl, hx, rfl, hs, (Ext.refl e'.j).mut rfl, _, _, rfl, by rw [if_pos hs]; exact upd_same⟩
      · rw [if_neg hs]
        exact ⟨Ext.refl e'.j, _, _, rfl, by rw [if_neg hs]; exact hx⟩
  · rintro σ' H' e' ⟨a, b, rfl, hx⟩
    rw [List.length_map, List.take_length] at hx
    have eF := Ext.drop' hp e'
    exact ⟨_, rfl, kk _ H' (e1.trans eF) (.dic (e1.fresh hp) hx)⟩
theorem sc_at : FnScope ["ledger", "moment", "records", "_", "group"] ["ledger", "moment"] d_at.scope := ⟨rfl, rfl, rfl, by decide +kernel, rfl, by decide +kernel, by decide +kernel⟩
theorem g_at (T : Tx K mg) (G_apply : Good P w K mg base 1 "apply" ["records", "group"] sp_apply) : Good P w K mg base 2 "at" ["ledger", "moment"] sp_at := by
  refine good_def (D_at T.c) (T.glo _ (F_g_at T.c)) (fun _ _ _ _ _ _ us hl => match us, hl with | [_, _], _ => rfl) sc_at (len_G fun _ => rfl) ⟨_, fun f cdv A outer s H E hr =>
    (pss_cons (ps_set (i := 2) sc_at.nd rfl (Or.inl rfl) pe_dnewK)
      (pss_cons (ps_for PassesOwn.never rfl (k_pi_list (K := K) rfl (pe_slice (k_sl_list (K := K) rfl) (pv 0) po_none (po_some (pv 1)))) (k_pg_tup (K := K) (n := 2) rfl rfl (pgs_cons (pg_name (i := 3) sc_at.nd rfl (Or.inl rfl)) (pgs_cons (pg_name (i := 4) sc_at.nd rfl (Or.inl rfl)) pgs_nil))) (pss_one (ps_set (i := 2) sc_at.nd rfl (Or.inl rfl) (pe_cG G_apply hr rfl (pa_cons (pv 2) (pa_cons (pv 4) pa_nil))))))
      (pss_one (ps_ret (pv 2))))), ?_⟩
  rintro vs H Q E ⟨F, ⟨l, m⟩, j, hv, ⟨lk0, hm⟩, kk⟩
  obtain ⟨v1, v2, rfl, h1, h2⟩ := hv.two
  apply s_setS j ev_newK
  intro vr H2 e2 hr
  apply s_forLS e2.j (Pv := fun i σ' H' => ∃ vr a b, σ' = [some v1, some v2, some vr, a, b] ∧ Dv F H' vr (kR (((l.take m.toNat).take i).foldl (fun r c => apR r c.2) [])))
  · apply ev_slTo
    · wtm_at "ev"
    · wtm_at "ev"
    · exact hm
  · intro H3 e3
    exact ⟨vr, none, none, rfl, hr.mono e3⟩
  · rintro i d v σ' H' hi e' ⟨vr, a, b, rfl, hvr⟩ hv
    rw [← List.map_take, List.getElem?_map] at hi
    obtain ⟨c, hc, rfl⟩ := Option.map_eq_some_iff.mp hi
    have lt : LOk (l.take m.toNat) := lk0.take _
    have okI := atR_fold (l := (l.take m.toNat).take i) (r := []) (lt.take i) RecOk.nil fun p hp => by cases hp
    refine g_unp2 hv fun x y hx hy => ?_
    apply s_set e'.j
    · apply ev_apply (r := ((l.take m.toNat).take i).foldl (fun r c => apR r c.2) []) (g := c.2)
      · wtm_at "ev"
      · exact ⟨okI.1, okI.2.1, lt c (List.mem_of_getElem? hc)⟩
    · intro v3 H3 e3 h3
      refine ⟨e3, v3, _, _, rfl, ?_⟩
      rw [List.take_succ, hc, List.foldl_append]
      exact h3
  · rintro σ' H' e' ⟨vr, a, b, rfl, hvr⟩
    apply s_retK e'.j
    · wtm_at "ev"
    · exact fun v H3 e hv => kk v H3 ((e2.trans e').trans e) hv
    · have z : (List.take m.toNat (l.map kCm)).length = (l.take m.toNat).length := by rw [← List.map_take, List.length_map]
      rw [z, List.take_length]
      rfl
theorem sc_w_at : FnScope ["_law_ledger", "_law_moment", "_law_records", "_law_time", "_law_group_here", "_law_key_here", "_law_value"] ["_law_ledger", "_law_moment"] d_w_at.scope := ⟨rfl, rfl, rfl, by decide +kernel, rfl, by decide +kernel, by decide +kernel⟩
theorem g_w_at (T : Tx K mg)  : Good P w K mg base 1 "_law_at" ["_law_ledger", "_law_moment"] sp_w_at := by
  refine good_def (D_w_at T.c) (T.glo _ (F_g_w_at T.c)) (fun _ _ _ _ _ _ us hl => match us, hl with | [_, _], _ => rfl) sc_w_at (len_G fun _ => rfl) ⟨_, fun f cdv A outer s H E hr =>
    (pss_cons (ps_set (i := 2) sc_w_at.nd rfl (Or.inl rfl) pe_dnewK)
      (pss_cons (ps_for PassesOwn.never rfl (k_pi_list (K := K) rfl (pe_slice (k_sl_list (K := K) rfl) (pv 0) po_none (po_some (pv 1)))) (k_pg_tup (K := K) (n := 2) rfl rfl (pgs_cons (pg_name (i := 3) sc_w_at.nd rfl (Or.inl rfl)) (pgs_cons (pg_name (i := 4) sc_w_at.nd rfl (Or.inl rfl)) pgs_nil))) (pss_one (ps_for PassesOwn.never rfl (k_pi_tup (K := K) rfl (pv 4)) (k_pg_tup (K := K) (n := 2) rfl rfl (pgs_cons (pg_name (i := 5) sc_w_at.nd rfl (Or.inl rfl)) (pgs_cons (pg_name (i := 6) sc_w_at.nd rfl (Or.inl rfl)) pgs_nil))) (pss_one (ps_dput (hu_of hr) (pv 2) (pv 5) (pv 6) rfl)))))
      (pss_one (ps_ret (pv 2))))), ?_⟩
  rintro vs H Q E ⟨F, ⟨l, m⟩, j, hv, ⟨lk0, hm⟩, kk⟩
  obtain ⟨v1, v2, rfl, h1, h2⟩ := hv.two
  refine s_newDS j fun p hp jp => ?_
  have h1' := h1.add (p := p) (o := .dK []) hp
  have h2' := h2.add (p := p) (o := .dK []) hp
  have lt : LOk (l.take m.toNat) := lk0.take _
  apply s_forLSp Le1.pin jp (Pv := fun i σ' H' => ∃ a b c d, σ' = [some v1, some v2, some (.ref p), a, b, c, d] ∧ H' p = some (.dK (((l.take m.toNat).take i).foldl (fun r c => apW r c.2) [])))
  · apply ev_slTo
    · wtm_at "ev"
    · wtm_at "ev"
    · exact hm
  · intro H2 e2
    exact ⟨none, none, none, none, rfl, e2.at_⟩
  · rintro i d v σ' H' hi e' ⟨a, b, c, d, rfl, hx⟩ hv
    rw [← List.map_take, List.getElem?_map] at hi
    obtain ⟨cm, hc, rfl⟩ := Option.map_eq_some_iff.mp hi
    have okI := atW_fold (l := (l.take m.toNat).take i) (r := []) (lt.take i) RecOk.nil
    have gk : GOk cm.2 := lt cm (List.mem_of_getElem? hc)
    refine g_unp2 hv fun x y hxx hyy => ?_
    have jq := pin_j e'.j hx rfl
    apply s_forTp Le1.pin jq (Pv := fun i2 σ' H' => ∃ c d, σ' = [some v1, some v2, some (.ref p), some x, some y, c, d] ∧ H' p = some (.dK (apW (((l.take m.toNat).take i).foldl (fun r c => apW r c.2) []) (cm.2.take i2))))
    · wtm_at "ev"
    · intro H3 e3
      exact ⟨c, d, rfl, e3.at_⟩
    · rintro i2 d2 v2' σ2 H2 hi2 e2 ⟨c2, d2', rfl, hx2⟩ hv2
      rw [List.getElem?_map] at hi2
      obtain ⟨w, hw, rfl⟩ := Option.map_eq_some_iff.mp hi2
      have okJ := apW_ok (g := cm.2.take i2) (fun z hz => gk z (List.mem_of_mem_take hz)) okI.1
      have small := okJ.1.small
      refine g_unp2 hv2 fun x2 y2 hxx2 hyy2 => ?_
      cases hxx2.str_inv
      obtain ⟨wk, wo⟩ := w
      have ev : y2 = oV wo := by
        cases wo with
        | none => exact (show Dv (F.add p) H2 y2 .non from hyy2).non_inv
        | some n => exact (show Dv (F.add p) H2 y2 (.int n) from hyy2).int_inv
      subst ev
      refine ⟨_, rfl, _, rfl, _, rfl, p, _, rfl, DPut.k (k := Sum.inr wk) hx2 (small1000 (by omega)), (Ext.refl e2.j).mut rfl, _, _, rfl, ?_⟩
      rw [upd_same, List.take_succ, hw]
      unfold apW
      rw [List.foldl_append]
      rfl
    · rintro σ2 H2 e2 ⟨c2, d2, rfl, hx2⟩
      rw [List.length_map, List.take_length] at hx2
      refine ⟨e2, _, _, _, _, rfl, ?_⟩
      rw [hx2, List.take_succ, hc, List.foldl_append]
      rfl
  · rintro σ' H' e' ⟨a, b, c, d, rfl, hx⟩
    have z : (List.take m.toNat (l.map kCm)).length = (l.take m.toNat).length := by rw [← List.map_take, List.length_map]
    rw [z, List.take_length] at hx
    have eF := Ext.drop' hp e'
    exact ⟨_, rfl, kk _ H' eF (.dic (fun s => F.live j (F.sub s) hp) hx)⟩
theorem sc_results : FnScope ["ledger", "questions", "moment", "records", "question"] ["ledger", "questions", "moment"] d_results.scope := ⟨rfl, rfl, rfl, by decide +kernel, rfl, by decide +kernel, by decide +kernel⟩
theorem g_results (T : Tx K mg) (G_at : Good P w K mg base 2 "at" ["ledger", "moment"] sp_at) (G_ask : Good P w K mg base 3 "ask" ["records", "question"] sp_ask) : Good P w K mg base 4 "results" ["ledger", "questions", "moment"] sp_results := by
  refine good_def (D_results T.c) (T.glo _ (F_g_results T.c)) (fun _ _ _ _ _ _ us hl => match us, hl with | [_, _, _], _ => rfl) sc_results (len_G fun _ => rfl) ⟨_, fun f cdv A outer s H E hr =>
    (pss_cons (ps_set (i := 3) sc_results.nd rfl (Or.inr rfl) (pe_cG G_at (hr.mono (by decide)) rfl (pa_cons (pv 0) (pa_cons (pv 2) pa_nil))))
      (pss_one (ps_ret (pe_lc (own := [("question", 4)]) (g := gName 4) (tt := tYes) rfl sc_results.nd (k_pi_list (K := K) rfl (pv 1)) (blkOk_by (own := [("question", 4)]) (N := ["ledger", "questions", "moment", "records", "question"]) (sc := d_results.scope) (by decide +kernel)) (fun _ _ _ _ _ => pg_name (i := 4) sc_results.nd rfl (Or.inl rfl)) (fun _ _ _ _ _ => pts_nil) (fun _ _ _ _ _ => (pe_cG G_ask hr rfl (pa_cons (pv 3) (pa_cons (pv 4) pa_nil)))))))), ?_⟩
  rintro vs H Q E ⟨F, ⟨l, qs, m⟩, j, hv, ⟨lk0, hm, qk⟩, kk⟩
  obtain ⟨v1, v2, v3, rfl, h1, h2, h3⟩ := hv.three
  have okR := atR_ok lk0 m.toNat
  apply s_setS j
  · wtm_at "ev"
    exact ⟨lk0, hm⟩
  intro vr H2 e2 hr
  have hr' : Dv F H2 vr (kR (atR l m.toNat)) := hr
  apply s_retK e2.j
  · refine (ev_lcM (ws := qs) (enc := kQ) ?_ (askF (lk (atR l m.toNat))) (fun q _ => imm_askF _ _) ?_ ?_).toEv
    · wtm_at "ev"
    · have : qs.length ≤ 1000 := qk.2
      omega
    · intro i q v H' hi e' hv
      refine ⟨_, fun Q q => q, rfl, ?_⟩
      apply ev_ask (r := atR l m.toNat) (q := q)
      · wtm_at "ev"
      · exact ⟨okR.1, okR.2.1⟩
  · exact fun v H5 e hv => kk v H5 (e2.trans e) hv
  · rw [okR.2.2]
    rfl
theorem sc_w_results : FnScope ["_law_ledger", "_law_questions", "_law_moment", "_law_records", "_law_question_here"] ["_law_ledger", "_law_questions", "_law_moment"] d_w_results.scope := ⟨rfl, rfl, rfl, by decide +kernel, rfl, by decide +kernel, by decide +kernel⟩
theorem g_w_results (T : Tx K mg) (G_w_at : Good P w K mg base 1 "_law_at" ["_law_ledger", "_law_moment"] sp_w_at) (G_w_ask : Good P w K mg base 2 "_law_ask" ["_law_records", "_law_question_here"] sp_w_ask) : Good P w K mg base 3 "_law_results" ["_law_ledger", "_law_questions", "_law_moment"] sp_w_results := by
  refine good_def (D_w_results T.c) (T.glo _ (F_g_w_results T.c)) (fun _ _ _ _ _ _ us hl => match us, hl with | [_, _, _], _ => rfl) sc_w_results (len_N fun _ => rfl) ⟨_, fun f cdv A outer s H E hr =>
    (pss_cons (ps_set (i := 3) sc_w_results.nd rfl (Or.inr rfl) (pe_cG G_w_at (hr.mono (by decide)) rfl (pa_cons (pv 0) (pa_cons (pv 2) pa_nil))))
      (pss_one (ps_ret (pe_lc (own := [("_law_question_here", 4)]) (g := gName 4) (tt := tYes) rfl sc_w_results.nd (k_pi_list (K := K) rfl (pv 1)) (blkOk_by (own := [("_law_question_here", 4)]) (N := ["_law_ledger", "_law_questions", "_law_moment", "_law_records", "_law_question_here"]) (sc := d_w_results.scope) (by decide +kernel)) (fun _ _ _ _ _ => pg_name (i := 4) sc_w_results.nd rfl (Or.inl rfl)) (fun _ _ _ _ _ => pts_nil) (fun _ _ _ _ _ => (pe_cG G_w_ask hr rfl (pa_cons (pv 3) (pa_cons (pv 4) pa_nil)))))))), ?_⟩
  rintro vs H Q E ⟨F, ⟨l, qs, m⟩, j, hv, ⟨lk0, hm, qk⟩, kk⟩
  obtain ⟨v1, v2, v3, rfl, h1, h2, h3⟩ := hv.three
  have okR := atW_ok lk0 m.toNat
  apply s_setS j
  · wtm_at "ev"
    exact ⟨lk0, hm⟩
  intro vr H2 e2 hr
  have hr' : Dv F H2 vr (kR (atW l m.toNat)) := hr
  refine s_retN e2.j (ev_lcM (ws := qs) (enc := kQ) ?_ (askF (lk (atW l m.toNat))) (fun q _ => imm_askF _ _) ?_ ?_) fun p H5 xs hp e hx hd => ?_
  · wtm_at "ev"
  · have : qs.length ≤ 1000 := qk.2
    omega
  · intro i q v H' hi e' hv
    refine ⟨_, fun Q q => q, rfl, ?_⟩
    apply ev_w_ask (r := atW l m.toNat) (q := q)
    · wtm_at "ev"
    · exact ⟨okR.1, qk.1 q (List.mem_of_getElem? hi)⟩
  · rw [okR.2] at hd
    exact kk p H5 xs (e2.back hp) (e2.trans e) hx hd
end
end Le

namespace Le
open PySem PySem.Spec PyProof.Rows L2
local macro_rules | `(tactic| wtm_at "ev1") => `(tactic| first
  | with_reducible exact ev_int | with_reducible exact ev_str | with_reducible exact ev_bl | with_reducible exact ev_non
  | with_reducible apply ev_var | with_reducible apply ev_op | with_reducible apply ev_chain
  | with_reducible apply ev_and | with_reducible apply ev_or | with_reducible apply ev_not
  | with_reducible apply et_and | with_reducible apply et_or | with_reducible apply et_not | with_reducible apply et_test | with_reducible apply et_B | with_reducible apply et_tru
  | with_reducible apply ev_if
  | with_reducible apply ev_tup | with_reducible apply ev_lst | with_reducible apply ea_cons | with_reducible exact ea_nil | with_reducible apply ev_cb
  | with_reducible exact rv_add | with_reducible exact rv_sub | with_reducible exact rv_lt | with_reducible exact rv_le | with_reducible exact rv_gt | with_reducible exact rv_ge
  | with_reducible exact rv_S | with_reducible exact rv_eqS | with_reducible exact rv_neS | with_reducible exact rv_eqI | with_reducible exact rv_neI | with_reducible exact rv_isN | with_reducible exact rv_notN | with_reducible exact rv_isB
  | with_reducible apply rv_ixT | with_reducible apply rv_ixL
  | with_reducible exact rc_lenL | with_reducible exact rc_lenT | with_reducible exact rc_list | with_reducible exact rc_tuple | with_reducible exact rc_intI | with_reducible exact rc_intB | with_reducible exact rc_min | with_reducible exact rc_max
  | wtm_at "evc"
  | (with_reducible apply dv_id; assumption) | (with_reducible apply dv_mono; assumption) | with_reducible apply dv_pin
  | (with_reducible intro _) | (with_reducible apply at_id; assumption) | exact rfl | (with_reducible apply le_id; exact Nat.le_of_ble_eq_true rfl))
local macro_rules | `(tactic| wtm_at "ev") => `(tactic| repeat' (wtm_at "ev1"))
local macro_rules | `(tactic| wtm_at "jj") => `(tactic| first | assumption | exact Ext.j (by assumption))
local macro_rules | `(tactic| wtm_at "evc") => `(tactic| first | with_reducible apply ev_contains | with_reducible apply ev_includes | with_reducible apply ev_touches | with_reducible apply ev_cover_of | with_reducible apply ev_w_cover_of | with_reducible apply ev_w_within | with_reducible apply ev_w_touches | with_reducible apply ev_least_record | with_reducible apply ev_selected | with_reducible apply ev_w_rows | with_reducible apply ev_ask | with_reducible apply ev_w_ask | with_reducible apply ev_apply | with_reducible apply ev_at | with_reducible apply ev_w_at | with_reducible apply ev_results | with_reducible apply ev_w_results | with_reducible apply ev_is_answer_at | with_reducible apply ev_is_true_at | with_reducible apply ev_is_true | with_reducible apply ev_w_is_true | with_reducible apply ev_supports_newest | with_reducible apply ev_supports | with_reducible apply ev_w_supports | with_reducible apply ev_accepts | with_reducible apply ev_w_accepts | with_reducible apply ev_w_is_right | with_reducible apply ev_w_reach | with_reducible apply ev_w_mix | with_reducible apply ev_w_number | with_reducible apply ev_w_is_integer | with_reducible apply ev_w_tells)
section
variable {P : Program} {w : World} {K : PySem.W.Frag} {mg : Str → Option Value} {base : Heap}
theorem sc_is_answer_at : FnScope ["ledger", "floor", "questions", "answer", "found", "moment", "_"] ["ledger", "floor", "questions", "answer"] d_is_answer_at.scope := ⟨rfl, rfl, rfl, by decide +kernel, rfl, by decide +kernel, by decide +kernel⟩
theorem g_is_answer_at (T : Tx K mg) (G_results : Good P w K mg base 4 "results" ["ledger", "questions", "moment"] sp_results) : Good P w K mg base 5 "is_answer_at" ["ledger", "floor", "questions", "answer"] sp_is_answer_at := by
  refine good_def (D_is_answer_at T.c) (T.glo _ (F_g_is_answer_at T.c)) (fun _ _ _ _ _ _ us hl => match us, hl with | [_, _, _, _], _ => rfl) sc_is_answer_at (len_G fun _ => rfl) ⟨_, fun f cdv A outer s H E hr =>
    (pss_cons (ps_asg (pv 3) (k_pg_tup (K := K) (n := 3) rfl rfl (pgs_cons (pg_name (i := 4) sc_is_answer_at.nd rfl (Or.inl rfl)) (pgs_cons (pg_name (i := 5) sc_is_answer_at.nd rfl (Or.inl rfl)) (pgs_cons (pg_name (i := 6) sc_is_answer_at.nd rfl (Or.inl rfl)) pgs_nil)))))
      (pss_cons (ps_if (pt_not (pt_chain op_le op_le (pv 1) (pv 5) (pe_callB (k_len (K := K) rfl) (by rfl) (T.free _ (F_b_len T.c)) (by decide +kernel) (pa_cons (pv 0) pa_nil)))) (pss_one (ps_ret pe_bl)) pss_nil)
      (pss_one (ps_ret (pe_cmpR (k_eqD (K := K) rfl hr.units) (pv 4) (pe_cG G_results hr rfl (pa_cons (pv 0) (pa_cons (pv 2) (pa_cons (pv 5) pa_nil)))) (nomark _)))))), ?_⟩
  rintro vs H Q E ⟨F, ⟨l, fl, qs, an⟩, j, hv, ⟨lk0, hf, ⟨ak, ae⟩, qk⟩, kk⟩
  obtain ⟨v1, v2, v3, v4, rfl, h1, h2, h3, h4⟩ := hv.four
  have h4' : Dv F H v4 (kAn an) := h4
  apply s_asgS j
  · wtm_at "ev"
  intro v H2 e2 hv4
  refine g_unp3 hv4 fun w1 w2 w3 hw1 hw2 hw3 => ?_
  apply s_ifS e2.j
  · wtm_at "ev"
  · intro hb H3 e3
    apply s_retK e3.j
    · wtm_at "ev"
    · exact fun v H5 e hv => kk v H5 ((e2.trans e3).trans e) hv
    · show D.bl false = .bl (isAns l fl qs an)
      unfold isAns
      rw [List.length_map, Bool.not_eq_true'] at hb
      rw [hb]
      rfl
  · intro hb H3 e3
    rw [List.length_map, Bool.not_eq_false'] at hb
    have h0 : 0 ≤ an.mom := by
      have z := of_decide_eq_true (Bool.and_eq_true_iff.mp hb).1
      have z2 : 0 ≤ fl := hf
      omega
    apply s_retK e3.j
    · apply ev_op (d1 := .lst an.found) (d2 := .lst (resF l qs an.mom.toNat))
      · wtm_at "ev"
      · apply ev_results (l := l) (qs := qs) (m := an.mom)
        · wtm_at "ev"
        · exact ⟨lk0, h0, qk⟩
      · refine rv_eqD 3 ?_ ?_ (by decide)
        · rw [D.fit]
          exact ak.1
        · rw [D.fit]
          exact fit_resF _ _ _
    · exact fun v H5 e hv => kk v H5 ((e2.trans e3).trans e) hv
    · show D.bl _ = .bl (isAns l fl qs an)
      unfold isAns
      rw [hb, D.eqb]
      rfl
theorem sc_is_true_at : FnScope ["ledger", "time", "said", "moment"] ["ledger", "time", "said", "moment"] d_is_true_at.scope := ⟨rfl, rfl, rfl, by decide +kernel, rfl, by decide +kernel, by decide +kernel⟩
theorem g_is_true_at (T : Tx K mg)  : Good P w K mg base 1 "is_true_at" ["ledger", "time", "said", "moment"] sp_is_true_at := by
  refine good_def (D_is_true_at T.c) (T.glo _ (F_g_is_true_at T.c)) (fun _ _ _ _ _ _ us hl => match us, hl with | [_, _, _, _], _ => rfl) sc_is_true_at (len_G fun _ => rfl) ⟨_, fun f cdv A outer s H E hr =>
    (pss_cons (ps_if (PW.pt (pw_or (pt_cmpR op_gt (pv 2) (pv 1) (nomark _)) (pw_or1 (pt_not (pt_chain op_le op_le pe_int (pv 3) (pe_callB (k_len (K := K) rfl) (by rfl) (T.free _ (F_b_len T.c)) (by decide +kernel) (pa_cons (pv 0) pa_nil))))))) (pss_one (ps_ret pe_bl)) pss_nil)
      (pss_cons (ps_if (PW.pt (pw_and (pt_cmpR op_gt (pv 3) pe_int (nomark _)) (pw_and1 (pt_cmpR op_gt (pe_ix (k_ix_tup (K := K) rfl) (pe_ix (k_ix_list (K := K) rfl) (pv 0) (pe_op op_sub (pv 3) pe_int) (fun _ _ => rfl)) pe_int (fun _ _ => rfl)) (pv 2) (nomark _))))) (pss_one (ps_ret pe_bl)) pss_nil)
      (pss_one (ps_ret (pe_or (pe_cmpR op_eq (pv 3) (pe_callB (k_len (K := K) rfl) (by rfl) (T.free _ (F_b_len T.c)) (by decide +kernel) (pa_cons (pv 0) pa_nil)) (nomark _)) (pe_one (pe_cmpR op_ge (pe_ix (k_ix_tup (K := K) rfl) (pe_ix (k_ix_list (K := K) rfl) (pv 0) (pv 3) (fun _ _ => rfl)) pe_int (fun _ _ => rfl)) (pv 2) (nomark _)))))))), ?_⟩
  rintro vs H Q E ⟨F, ⟨l, time, said, m⟩, j, hv, _, kk⟩
  obtain ⟨v1, v2, v3, v4, rfl, h1, h2, h3, h4⟩ := hv.four
  have h1' : Dv F H v1 (kLg l) := h1
  apply s_ifS j
  · wtm_at "ev"
  · intro hb H2 e2
    apply s_retK e2.j
    · wtm_at "ev"
    · exact fun v H5 e hv => kk v H5 (e2.trans e) hv
    · show D.bl false = .bl (trueAt l time said m)
      unfold trueAt
      rw [List.length_map] at hb
      have z : (!(decide (time < said)) && (decide (0 ≤ m) && decide (m ≤ (l.length : Nat)))) = false := by
        cases a : decide (time < said) with
        | true => rfl
        | false =>
          have hb2 : (decide (time < said) || !(decide (0 ≤ m) && decide (m ≤ (l.length : Nat)))) = true := hb
          rw [a] at hb2
          have hb3 := (Bool.not_eq_true' _).mp hb2
          rw [hb3]
          rfl
      rw [z]
      rfl
  · intro hb H2 e2
    rw [List.length_map] at hb
    have hb2 : (decide (time < said) || !(decide (0 ≤ m) && decide (m ≤ (l.length : Nat)))) = false := hb
    obtain ⟨ha, hc⟩ := Bool.or_eq_false_iff.mp hb2
    rw [Bool.not_eq_false'] at hc
    have m0 := of_decide_eq_true (Bool.and_eq_true_iff.mp hc).1
    have m1 := of_decide_eq_true (Bool.and_eq_true_iff.mp hc).2
    have et : trueAt l time said m = (!(decide (0 < m) && decide (said < tmL l (m - 1))) && (decide (m = (l.length : Nat)) || decide (said ≤ tmL l m))) := by
      unfold trueAt
      rw [ha, hc]
      rfl
    have tst : EvT F (tAnd (tTest (tOp (rI0 fun i j => .bl (decide (j < i))) (tVar 3) (tC (.int 0)))) (tTest (tOp (rI0 fun i j => .bl (decide (j < i))) (tOp (rIxT K) (tOp (rIxL K) (tVar 0) (tOp (rI0 fun i j => .int (i - j)) (tVar 3) (tC (.int 1)))) (tC (.int 0))) (tVar 2)))) (L2.start ["ledger", "time", "said", "moment"] [v1, v2, v3, v4]) H2 (decide (0 < m) && decide (said < tmL l (m - 1))) := by
      apply et_and
      · wtm_at "ev"
      · intro hp
        have hp2 : 0 < m := of_decide_eq_true hp
        obtain ⟨c, hat, ht, _⟩ := at_cm (l := l) (i := m - 1) (by omega) (by omega)
        rw [ht]
        wtm_at "ev"
    apply s_ifS e2.j tst
    · intro hb2 H3 e3
      apply s_retK e3.j
      · wtm_at "ev"
      · exact fun v H5 e hv => kk v H5 ((e2.trans e3).trans e) hv
      · show D.bl false = .bl (trueAt l time said m)
        rw [et, hb2]
        rfl
    · intro hb2 H3 e3
      apply s_retK (d1 := .bl (decide (m = (l.length : Nat)) || decide (said ≤ tmL l m))) e3.j
      · apply ev_or
        · rw [← len_map kCm l]
          wtm_at "ev"
        · intro hp
          have hp2 : ¬ m = (l.length : Nat) := of_decide_eq_false hp
          obtain ⟨c, hat, ht, _⟩ := at_cm (l := l) (i := m) m0 (by omega)
          rw [ht]
          wtm_at "ev"
      · exact fun v H5 e hv => kk v H5 ((e2.trans e3).trans e) hv
      · show _ = D.bl (trueAt l time said m)
        rw [et, hb2]
        rfl
theorem sc_is_true : FnScope ["ledger", "leases", "time", "statement", "lease"] ["ledger", "leases", "time", "statement"] d_is_true.scope := ⟨rfl, rfl, rfl, by decide +kernel, rfl, by decide +kernel, by decide +kernel⟩
theorem g_is_true (T : Tx K mg) (G_is_true_at : Good P w K mg base 1 "is_true_at" ["ledger", "time", "said", "moment"] sp_is_true_at) : Good P w K mg base 2 "is_true" ["ledger", "leases", "time", "statement"] sp_is_true := by
  refine good_def (D_is_true T.c) (T.glo _ (F_g_is_true T.c)) (fun _ _ _ _ _ _ us hl => match us, hl with | [_, _, _, _], _ => rfl) sc_is_true (len_G fun _ => rfl) ⟨_, fun f cdv A outer s H E hr =>
    (pss_cons (ps_if (PW.pt (pw_and (pt_cmpR op_eq (pe_callB (k_len (K := K) rfl) (by rfl) (T.free _ (F_b_len T.c)) (by decide +kernel) (pa_cons (pv 3) pa_nil)) pe_int (nomark _)) (pw_and1 (pt_cmpR op_eq (pe_ix (k_ix_tup (K := K) rfl) (pv 3) pe_int (fun _ _ => rfl)) pe_str (nomark _))))) (pss_one (ps_ret (pe_cG G_is_true_at hr rfl (pa_cons (pv 0) (pa_cons (pv 2) (pa_cons (pe_ix (k_ix_tup (K := K) rfl) (pv 3) pe_int (fun _ _ => rfl)) (pa_cons (pe_ix (k_ix_tup (K := K) rfl) (pv 3) pe_int (fun _ _ => rfl)) pa_nil))))))) pss_nil)
      (pss_cons (ps_if (PW.pt (pw_or (pt_cmpR op_ne (pe_callB (k_len (K := K) rfl) (by rfl) (T.free _ (F_b_len T.c)) (by decide +kernel) (pa_cons (pv 3) pa_nil)) pe_int (nomark _)) (pw_or (pt_cmpR op_ne (pe_ix (k_ix_tup (K := K) rfl) (pv 3) pe_int (fun _ _ => rfl)) pe_str (nomark _)) (pw_or1 (pt_not (pt_chain op_le op_lt pe_int (pe_ix (k_ix_tup (K := K) rfl) (pv 3) pe_int (fun _ _ => rfl)) (pe_callB (k_len (K := K) rfl) (by rfl) (T.free _ (F_b_len T.c)) (by decide +kernel) (pa_cons (pv 1) pa_nil)))))))) (pss_one (ps_ret pe_bl)) pss_nil)
      (pss_cons (ps_set (i := 4) sc_is_true.nd rfl (Or.inl rfl) (pe_ix (k_ix_list (K := K) rfl) (pv 1) (pe_ix (k_ix_tup (K := K) rfl) (pv 3) pe_int (fun _ _ => rfl)) (fun _ _ => rfl)))
      (pss_one (ps_ret (pe_and (pe_not (pe_ix (k_ix_tup (K := K) rfl) (pv 4) pe_int (fun _ _ => rfl))) (pe_one (pe_cmpR op_lt (pv 2) (pe_ix (k_ix_tup (K := K) rfl) (pv 4) pe_int (fun _ _ => rfl)) (nomark _))))))))), ?_⟩
  rintro vs H Q E ⟨F, ⟨l, ls, time, st⟩, j, hv, _, kk⟩
  obtain ⟨v1, v2, v3, v4, rfl, h1, h2, h3, h4⟩ := hv.four
  have h1' : Dv F H v1 (kLg l) := h1
  have h2' : Dv F H v2 (kLss ls) := h2
  cases st with
  | «at» s m =>
    apply s_ifTS j
    · wtm_at "ev"
    · rfl
    · intro H2 e2
      apply s_retK e2.j
      · wtm_at "ev"
      · exact fun v H5 e hv => kk v H5 (e2.trans e) hv
      · rfl
  | lease i =>
    apply s_ifFS j
    · wtm_at "ev"
    · rfl
    intro H2 e2
    apply s_ifS e2.j (b := !(decide (0 ≤ i) && decide (i < (ls.length : Nat))))
    · have z : EvT F (tOr (tTest (tOp rNe (tCB (rLen K) (tCons (tVar 3) tNil)) (tC (.int 2)))) (tOr (tTest (tOp rNe (tOp (rIxT K) (tVar 3) (tC (.int 0))) (tC (.str "lease")))) (tNot (tTest (tChain (rI0 fun i j => .bl (decide (i ≤ j))) (rI0 fun i j => .bl (decide (i < j))) (tC (.int 0)) (tOp (rIxT K) (tVar 3) (tC (.int 1))) (tCB (rLen K) (tCons (tVar 1) tNil))))))) (L2.start ["ledger", "leases", "time", "statement", "lease"] [v1, v2, v3, v4]) H2
          (false || (false || !(decide (0 ≤ i) && decide (i < ((ls.map kLs).length : Nat))))) := by
        apply et_or
        · apply EvT.to
          · wtm_at "ev"
          · rfl
        · intro _
          apply et_or
          · apply EvT.to
            · wtm_at "ev"
            · decide
          · intro _
            wtm_at "ev"
      rw [List.length_map] at z
      exact z
    · intro hb H3 e3
      apply s_retK e3.j
      · wtm_at "ev"
      · exact fun v H5 e hv => kk v H5 ((e2.trans e3).trans e) hv
      · show D.bl false = .bl (leaseOn ls time i)
        unfold leaseOn
        rw [Bool.not_eq_true'] at hb
        rw [hb]
        rfl
    · intro hb H3 e3
      rw [Bool.not_eq_false'] at hb
      have i0 := of_decide_eq_true (Bool.and_eq_true_iff.mp hb).1
      have i1 := of_decide_eq_true (Bool.and_eq_true_iff.mp hb).2
      obtain ⟨x, hx⟩ := some_at (l := ls) i0 i1
      have hat := atI_map (f := kLs) i0 hx
      apply s_setS e3.j
      · wtm_at "ev"
      intro vl H4 e4 hvl
      apply s_retK e4.j
      · wtm_at "ev"
      · exact fun v H5 e hv => kk v H5 (((e2.trans e3).trans e4).trans e) hv
      · show _ = D.bl (leaseOn ls time i)
        unfold leaseOn
        rw [hb, hx]
        rfl
theorem sc_supports_newest : FnScope ["leases", "questions", "evidence", "moment", "question", "statement", "lease"] ["leases", "questions", "evidence", "moment"] d_supports_newest.scope := ⟨rfl, rfl, rfl, by decide +kernel, rfl, by decide +kernel, by decide +kernel⟩
theorem g_supports_newest (T : Tx K mg) (G_includes : Good P w K mg base 2 "includes" ["outer", "inner"] sp_includes) (G_cover_of : Good P w K mg base 1 "cover_of" ["question"] sp_cover_of) : Good P w K mg base 3 "supports_newest" ["leases", "questions", "evidence", "moment"] sp_supports_newest := by
  refine good_def (D_supports_newest T.c) (T.glo _ (F_g_supports_newest T.c)) (fun _ _ _ _ _ _ us hl => match us, hl with | [_, _, _, _], _ => rfl) sc_supports_newest (len_G fun _ => rfl) ⟨_, fun f cdv A outer s H E hr =>
    (pss_cons (ps_if (pt_cmpR op_ne (pe_callB (k_len (K := K) rfl) (by rfl) (T.free _ (F_b_len T.c)) (by decide +kernel) (pa_cons (pv 2) pa_nil)) (pe_callB (k_len (K := K) rfl) (by rfl) (T.free _ (F_b_len T.c)) (by decide +kernel) (pa_cons (pv 1) pa_nil)) (nomark _)) (pss_one (ps_ret pe_bl)) pss_nil)
      (pss_cons (ps_for PassesOwn.never rfl (k_pi_zip (K := K) rfl (by rfl) (T.free _ (F_b_zip T.c)) (pa_cons (pv 1) (pa_cons (pv 2) pa_nil))) (k_pg_tup (K := K) (n := 2) rfl rfl (pgs_cons (pg_name (i := 4) sc_supports_newest.nd rfl (Or.inl rfl)) (pgs_cons (pg_name (i := 5) sc_supports_newest.nd rfl (Or.inl rfl)) pgs_nil))) (pss_cons (ps_if (pt_cmpR op_ne (pe_ix (k_ix_tup (K := K) rfl) (pv 5) pe_int (fun _ _ => rfl)) pe_str (nomark _)) (pss_one (ps_ret pe_bl)) pss_nil)
      (pss_cons (ps_set (i := 6) sc_supports_newest.nd rfl (Or.inl rfl) (pe_ix (k_ix_list (K := K) rfl) (pv 0) (pe_ix (k_ix_tup (K := K) rfl) (pv 5) pe_int (fun _ _ => rfl)) (fun _ _ => rfl)))
      (pss_one (ps_if (PW.pt (pw_or (pt_not (pt_val (pe_cG G_includes hr rfl (pa_cons (pe_ix (k_ix_tup (K := K) rfl) (pv 6) pe_int (fun _ _ => rfl)) (pa_cons (pe_cG G_cover_of (hr.mono (by decide)) rfl (pa_cons (pv 4) pa_nil)) pa_nil))))) (pw_or1 (pt_cmpR op_gt (pe_ix (k_ix_tup (K := K) rfl) (pv 6) pe_int (fun _ _ => rfl)) (pv 3) (nomark _))))) (pss_one (ps_ret pe_bl)) pss_nil)))))
      (pss_one (ps_ret pe_bl)))), ?_⟩
  rintro vs H Q E ⟨F, ⟨ls, qs, ev, mom⟩, j, hv, ⟨ek, qk⟩, kk⟩
  obtain ⟨v1, v2, v3, v4, rfl, h1, h2, h3, h4⟩ := hv.four
  have h1' : Dv F H v1 (kLss ls) := h1
  have h2' : Dv F H v2 (kQs qs) := h2
  have h3' : Dv F H v3 (kSs ev) := h3
  have h4' : Dv F H v4 (.int mom) := h4
  apply s_ifS j
  · wtm_at "ev"
  · intro hb H2 e2
    rw [List.length_map, List.length_map, Bool.not_eq_true'] at hb
    have ne : ¬ ev.length = qs.length := fun z => of_decide_eq_false hb (by rw [z])
    apply s_retK e2.j
    · wtm_at "ev"
    · exact fun v H5 e hv => kk v H5 (e2.trans e) hv
    · show D.bl false = .bl (supN ls qs ev mom)
      unfold supN
      rw [decide_eq_false ne]
      rfl
  intro hb H2 e2
  rw [List.length_map, List.length_map, Bool.not_eq_false'] at hb
  have le : ev.length = qs.length := by
    have z := of_decide_eq_true hb
    omega
  apply s_forZS e2.j (Pv := fun i σ' H' => ∃ a b c, σ' = [some v1, some v2, some v3, some v4, a, b, c] ∧ ((qs.zip ev).take i).all (fun p => supOne ls mom p.1 p.2) = true)
  · wtm_at "ev"
  · wtm_at "ev"
  · rw [List.length_map, List.length_map, le]
  · intro H3 e3
    exact ⟨none, none, none, rfl, rfl⟩
  · rintro i d d2 v w σ' H' hi hi2 e' ⟨a, b, c, rfl, hall⟩ H3 e3 hvq hvs
    rw [List.getElem?_map] at hi hi2
    obtain ⟨q, hq, rfl⟩ := Option.map_eq_some_iff.mp hi
    obtain ⟨s, hs, rfl⟩ := Option.map_eq_some_iff.mp hi2
    have hz : (qs.zip ev)[i]? = some (q, s) := by
      rw [List.getElem?_zip_eq_some]
      exact ⟨hq, hs⟩
    have etake : (qs.zip ev).take (i + 1) = (qs.zip ev).take i ++ [(q, s)] := by
      rw [List.take_succ, hz]
      rfl
    have bad : supOne ls mom q s = false → D.bl false = .bl (supN ls qs ev mom) := fun hn => by
      unfold supN
      have z : ((qs.zip ev).all fun p => supOne ls mom p.1 p.2) = false := by
        rw [← Bool.not_eq_true]
        intro ha
        have z := List.all_eq_true.mp ha (q, s) (List.mem_of_getElem? hz)
        rw [hn] at z
        cases z
      rw [z, Bool.and_false]
    cases s with
    | «at» x y =>
      apply s_ifTS e3.j
      · wtm_at "ev"
      · decide
      · intro H4 e4
        apply s_retK e4.j
        · wtm_at "ev"
        · exact fun v H5 e hv => kk v H5 ((((e2.trans e').trans e3).trans e4).trans e) hv
        · exact bad rfl
    | lease n =>
      obtain ⟨n0, n1⟩ := ek.1 n (List.mem_of_getElem? hs)
      obtain ⟨x, hx⟩ := some_at (l := ls) n0 n1
      have hat := atI_map (f := kLs) n0 hx
      have eone : supOne ls mom q (.lease n) = (incl x.cov q.cov && !decide (mom < x.mom)) := by
        show (match ls[n.toNat]? with
          | some x => incl x.cov q.cov && !decide (mom < x.mom)
          | none => false) = _
        rw [hx]
      apply s_ifFS e3.j
      · wtm_at "ev"
      · decide
      intro H4 e4
      apply s_setS e4.j
      · wtm_at "ev"
      intro vl H5 e5 hvl
      have hvl' : Dv F H5 vl (.tup [.int x.host, .int x.inc, .int x.req, kC x.cov, .int x.til, .int x.mom, .int x.tim, .bl x.ret]) := hvl
      apply s_ifN e5.j (b := !incl x.cov q.cov || decide (mom < x.mom))
      · wtm_at "ev"
      · intro hb H6 e6
        apply s_retK e6.j
        · wtm_at "ev"
        · exact fun v H5 e hv => kk v H5 ((((((e2.trans e').trans e3).trans e4).trans e5).trans e6).trans e) hv
        · refine bad ?_
          rw [eone]
          rcases Bool.or_eq_true_iff.mp hb with z | z
          · rw [Bool.not_eq_true'] at z
            rw [z]
            rfl
          · rw [z, Bool.not_true, Bool.and_false]
      · intro hb H6 e6
        obtain ⟨z1, z2⟩ := Bool.or_eq_false_iff.mp hb
        rw [Bool.not_eq_false'] at z1
        refine ⟨((e3.trans e4).trans e5).trans e6, _, _, _, rfl, ?_⟩
        rw [etake, List.all_append, hall, List.all_cons, eone, z1, z2]
        rfl
  · rintro σ' H' e' ⟨a, b, c, rfl, hall⟩
    apply s_retK e'.j
    · wtm_at "ev"
    · exact fun v H5 e hv => kk v H5 ((e2.trans e').trans e) hv
    · show D.bl true = .bl (supN ls qs ev mom)
      have z : (qs.zip ev).length = (qs.map kQ).length := by rw [List.length_zip, List.length_map, le, Nat.min_self]
      rw [← z, List.take_length] at hall
      unfold supN
      rw [hall, decide_eq_true le]
      rfl
theorem sc_supports : FnScope ["leases", "time", "read", "evidence", "moment", "_", "questions", "promise"] ["leases", "time", "read", "evidence", "moment"] d_supports.scope := ⟨rfl, rfl, rfl, by decide +kernel, rfl, by decide +kernel, by decide +kernel⟩
theorem g_supports (T : Tx K mg) (G_supports_newest : Good P w K mg base 3 "supports_newest" ["leases", "questions", "evidence", "moment"] sp_supports_newest) : Good P w K mg base 4 "supports" ["leases", "time", "read", "evidence", "moment"] sp_supports := by
  refine good_def (D_supports T.c) (T.glo _ (F_g_supports T.c)) (fun _ _ _ _ _ _ us hl => match us, hl with | [_, _, _, _, _], _ => rfl) sc_supports (len_G fun _ => rfl) ⟨_, fun f cdv A outer s H E hr =>
    (pss_cons (ps_asg (pv 2) (k_pg_tup (K := K) (n := 4) rfl rfl (pgs_cons (pg_name (i := 5) sc_supports.nd rfl (Or.inl rfl)) (pgs_cons (pg_name (i := 5) sc_supports.nd rfl (Or.inl rfl)) (pgs_cons (pg_name (i := 6) sc_supports.nd rfl (Or.inl rfl)) (pgs_cons (pg_name (i := 7) sc_supports.nd rfl (Or.inl rfl)) pgs_nil))))))
      (pss_cons (ps_if (pt_cmpR op_eq (pe_ix (k_ix_tup (K := K) rfl) (pv 7) pe_int (fun _ _ => rfl)) pe_str (nomark _)) (pss_one (ps_ret (pe_cmpR (k_eqD (K := K) rfl hr.units) (pv 3) (pe_lst pa_nil) (nomark _)))) pss_nil)
      (pss_cons (ps_if (pt_cmpR op_eq (pe_ix (k_ix_tup (K := K) rfl) (pv 7) pe_int (fun _ _ => rfl)) pe_str (nomark _)) (pss_one (ps_ret (pe_cG G_supports_newest hr rfl (pa_cons (pv 0) (pa_cons (pv 6) (pa_cons (pv 3) (pa_cons (pv 4) pa_nil))))))) pss_nil)
      (pss_cons (ps_if (PW.pt (pw_or (pt_cmpR op_ne (pe_callB (k_len (K := K) rfl) (by rfl) (T.free _ (F_b_len T.c)) (by decide +kernel) (pa_cons (pv 3) pa_nil)) pe_int (nomark _)) (pw_or1 (pt_cmpR op_ne (pe_ix (k_ix_tup (K := K) rfl) (pe_ix (k_ix_list (K := K) rfl) (pv 3) pe_int (fun _ _ => rfl)) pe_int (fun _ _ => rfl)) pe_str (nomark _))))) (pss_one (ps_ret pe_bl)) pss_nil)
      (pss_one (ps_ret (pe_and (pe_cmpR op_le (pe_ix (k_ix_tup (K := K) rfl) (pe_ix (k_ix_list (K := K) rfl) (pv 3) pe_int (fun _ _ => rfl)) pe_int (fun _ _ => rfl)) (pv 4) (nomark _)) (pe_one (pe_cmpR op_ge (pe_ix (k_ix_tup (K := K) rfl) (pe_ix (k_ix_list (K := K) rfl) (pv 3) pe_int (fun _ _ => rfl)) pe_int (fun _ _ => rfl)) (pe_op op_sub (pv 1) (pe_ix (k_ix_tup (K := K) rfl) (pv 7) pe_int (fun _ _ => rfl))) (nomark _)))))))))), ?_⟩
  rintro vs H Q E ⟨F, ⟨ls, time, rd, ev, mom⟩, j, hv, ⟨ek, qk⟩, kk⟩
  obtain ⟨v1, v2, v3, v4, v5, rfl, h1, h2, h3, h4, h5⟩ := hv.five
  obtain ⟨num, ses, qs, pr⟩ := rd
  have h3' : Dv F H v3 (.tup [.int num, .str ses, kQs qs, kP pr]) := h3
  have h4' : Dv F H v4 (kSs ev) := h4
  have h5' : Dv F H v5 (.int mom) := h5
  have h2' : Dv F H v2 (.int time) := h2
  apply s_asgS j
  · wtm_at "ev"
  intro v H2 e2 hv4
  refine g_unp4 hv4 fun w1 w2 w3 w4 hw1 hw2 hw3 hw4 => ?_
  cases pr with
  | any =>
    apply s_ifTS e2.j
    · wtm_at "ev"
    · decide
    · intro H3 e3
      apply s_retK e3.j
      · apply ev_op (d1 := .lst (ev.map kS)) (d2 := .lst [])
        · wtm_at "ev"
        · wtm_at "ev"
        · refine rv_eqD 2 ?_ ?_ (by decide)
          · rw [D.fit]
            exact fitA_all.mpr fun d hd => by
              obtain ⟨s, _, rfl⟩ := List.mem_map.mp hd
              exact fit_kS s
          · rw [D.fit, fitA]
      · exact fun v H5 e hv => kk v H5 ((e2.trans e3).trans e) hv
      · show _ = D.bl ev.isEmpty
        rw [D.eqb]
        cases ev <;> rfl
  | newest =>
    apply s_ifFS e2.j
    · wtm_at "ev"
    · decide
    intro H3 e3
    apply s_ifTS e3.j
    · wtm_at "ev"
    · decide
    · intro H4 e4
      apply s_retK e4.j
      · apply ev_supports_newest (ls := ls) (qs := qs) (ev := ev) (mom := mom)
        · wtm_at "ev"
        · exact ⟨ek, qk⟩
      · exact fun v H5 e hv => kk v H5 (((e2.trans e3).trans e4).trans e) hv
      · rfl
  | age t =>
    apply s_ifFS e2.j
    · wtm_at "ev"
    · decide
    intro H3 e3
    apply s_ifFS e3.j
    · wtm_at "ev"
    · decide
    intro H4 e4
    match ev, h4' with
    | [], h4' =>
      apply s_ifTS e4.j (b := true)
      · apply et_or (b1 := true) (b2 := true)
        · apply EvT.to
          · wtm_at "ev"
          · rfl
        · intro z
          cases z
      · rfl
      · intro H5 e5
        apply s_retK e5.j
        · wtm_at "ev"
        · exact fun v H6 e hv => kk v H6 ((((e2.trans e3).trans e4).trans e5).trans e) hv
        · rfl
    | [s], h4' =>
      cases s with
      | lease i =>
        apply s_ifTS e4.j (b := true)
        · apply et_or (b1 := false) (b2 := true)
          · apply EvT.to
            · wtm_at "ev"
            · rfl
          · intro _
            apply EvT.to
            · wtm_at "ev"
            · decide
        · rfl
        · intro H5 e5
          apply s_retK e5.j
          · wtm_at "ev"
          · exact fun v H6 e hv => kk v H6 ((((e2.trans e3).trans e4).trans e5).trans e) hv
          · rfl
      | «at» s m =>
        apply s_ifFS e4.j (b := false)
        · apply et_or (b1 := false) (b2 := false)
          · apply EvT.to
            · wtm_at "ev"
            · rfl
          · intro _
            apply EvT.to
            · wtm_at "ev"
            · decide
        · rfl
        · intro H5 e5
          apply s_retK e5.j
          · wtm_at "ev"
          · exact fun v H6 e hv => kk v H6 ((((e2.trans e3).trans e4).trans e5).trans e) hv
          · rfl
    | s :: s2 :: r, h4' =>
      apply s_ifTS e4.j (b := true)
      · apply et_or (b1 := true) (b2 := true)
        · apply EvT.to
          · wtm_at "ev"
          · show (!decide ((((s :: s2 :: r).map kS).length : Int) = 1)) = true
            rw [List.length_map, List.length_cons, List.length_cons, decide_eq_false (by omega)]
            rfl
        · intro z
          cases z
      · rfl
      · intro H5 e5
        apply s_retK e5.j
        · wtm_at "ev"
        · exact fun v H6 e hv => kk v H6 ((((e2.trans e3).trans e4).trans e5).trans e) hv
        · cases s <;> rfl
theorem sc_accepts : FnScope ["ledger", "leases", "time", "floor", "read", "answer", "statement"] ["ledger", "leases", "time", "floor", "read", "answer"] d_accepts.scope := ⟨rfl, rfl, rfl, by decide +kernel, rfl, by decide +kernel, by decide +kernel⟩
theorem g_accepts (T : Tx K mg) (G_is_answer_at : Good P w K mg base 5 "is_answer_at" ["ledger", "floor", "questions", "answer"] sp_is_answer_at) (G_is_true : Good P w K mg base 2 "is_true" ["ledger", "leases", "time", "statement"] sp_is_true) (G_supports : Good P w K mg base 4 "supports" ["leases", "time", "read", "evidence", "moment"] sp_supports) : Good P w K mg base 6 "accepts" ["ledger", "leases", "time", "floor", "read", "answer"] sp_accepts := by
  refine good_def (D_accepts T.c) (T.glo _ (F_g_accepts T.c)) (fun _ _ _ _ _ _ us hl => match us, hl with | [_, _, _, _, _, _], _ => rfl) sc_accepts (len_G fun _ => rfl) ⟨_, fun f cdv A outer s H E hr =>
    (pss_cons (ps_if (pt_not (pt_val (pe_cG G_is_answer_at hr rfl (pa_cons (pv 0) (pa_cons (pv 3) (pa_cons (pe_ix (k_ix_tup (K := K) rfl) (pv 4) pe_int (fun _ _ => rfl)) (pa_cons (pv 5) pa_nil))))))) (pss_one (ps_ret pe_bl)) pss_nil)
      (pss_cons (ps_for PassesOwn.never rfl (k_pi_list (K := K) rfl (pe_ix (k_ix_tup (K := K) rfl) (pv 5) pe_int (fun _ _ => rfl))) (pg_name (i := 6) sc_accepts.nd rfl (Or.inl rfl)) (pss_one (ps_if (pt_not (pt_val (pe_cG G_is_true (hr.mono (by decide)) rfl (pa_cons (pv 0) (pa_cons (pv 1) (pa_cons (pv 2) (pa_cons (pv 6) pa_nil))))))) (pss_one (ps_ret pe_bl)) pss_nil)))
      (pss_one (ps_ret (pe_cG G_supports (hr.mono (by decide)) rfl (pa_cons (pv 1) (pa_cons (pv 2) (pa_cons (pv 4) (pa_cons (pe_ix (k_ix_tup (K := K) rfl) (pv 5) pe_int (fun _ _ => rfl)) (pa_cons (pe_ix (k_ix_tup (K := K) rfl) (pv 5) pe_int (fun _ _ => rfl)) pa_nil)))))))))), ?_⟩
  rintro vs H Q E ⟨F, ⟨l, ls, time, fl, rd, an⟩, j, hv, ⟨lk0, hf, ak, qk⟩, kk⟩
  obtain ⟨v1, v2, v3, v4, v5, v6, rfl, h1, h2, h3, h4, h5, h6⟩ := hv.six
  have h1' : Dv F H v1 (kLg l) := h1
  have h2' : Dv F H v2 (kLss ls) := h2
  have h5' : Dv F H v5 (kRd rd) := h5
  have h6' : Dv F H v6 (kAn an) := h6
  have h5'' : Dv F H v5 (.tup [.int rd.num, .str rd.ses, kQs rd.qs, kP rd.pr]) := h5
  have h6'' : Dv F H v6 (.tup [.lst an.found, .int an.mom, kSs an.ev]) := h6
  apply s_ifS (b := !isAns l fl rd.qs an) j
  · apply et_not
    apply et_B
    apply ev_is_answer_at (l := l) (fl := fl) (qs := rd.qs) (an := an)
    · wtm_at "ev"
    · exact ⟨lk0, hf, ak, qk⟩
  · intro hb H2 e2
    apply s_retK e2.j
    · wtm_at "ev"
    · exact fun v H5 e hv => kk v H5 (e2.trans e) hv
    · show D.bl false = .bl (acc l ls time fl rd an)
      unfold acc
      rw [Bool.not_eq_true'] at hb
      rw [hb]
      rfl
  intro hb H2 e2
  rw [Bool.not_eq_false'] at hb
  apply s_forLS e2.j (Pv := fun i σ' H' => ∃ a, σ' = [some v1, some v2, some v3, some v4, some v5, some v6, a] ∧ (an.ev.take i).all (trueS l ls time) = true)
  · wtm_at "ev"
  · intro H3 e3
    exact ⟨none, rfl, rfl⟩
  · rintro i d v σ' H' hi e' ⟨a, rfl, hall⟩ hv
    rw [List.getElem?_map] at hi
    obtain ⟨s, hs, rfl⟩ := Option.map_eq_some_iff.mp hi
    apply s_ifN (b := !trueS l ls time s) e'.j
    · wtm_at "ev"
    · intro hb H4 e4
      apply s_retK e4.j
      · wtm_at "ev"
      · exact fun v H5 e hv => kk v H5 (((e2.trans e').trans e4).trans e) hv
      · show D.bl false = .bl (acc l ls time fl rd an)
        unfold acc
        have z : an.ev.all (trueS l ls time) = false := by
          rw [← Bool.not_eq_true]
          intro ha
          have z := List.all_eq_true.mp ha s (List.mem_of_getElem? hs)
          rw [z] at hb
          cases hb
        rw [z, Bool.and_false]
        rfl
    · intro hb H4 e4
      rw [Bool.not_eq_false'] at hb
      refine ⟨e4, _, rfl, ?_⟩
      rw [List.take_succ, hs, List.all_append, hall]
      show (true && (trueS l ls time s && true)) = true
      rw [hb]
      rfl
  · rintro σ' H' e' ⟨a, rfl, hall⟩
    rw [List.length_map, List.take_length] at hall
    have ek : EvOk ls an.ev := ⟨fun i hi => by
      have z : leaseOn ls time i = true := List.all_eq_true.mp hall _ hi
      unfold leaseOn at z
      have z2 := (Bool.and_eq_true_iff.mp z).1
      exact ⟨of_decide_eq_true (Bool.and_eq_true_iff.mp z2).1, of_decide_eq_true (Bool.and_eq_true_iff.mp z2).2⟩, ak.2⟩
    apply s_retK e'.j
    · apply ev_supports (ls := ls) (time := time) (rd := rd) (ev := an.ev) (mom := an.mom)
      · wtm_at "ev"
      · exact ⟨ek, qk⟩
    · exact fun v H5 e hv => kk v H5 ((e2.trans e').trans e) hv
    · show D.bl _ = .bl (acc l ls time fl rd an)
      unfold acc
      rw [hb, hall]
      rfl
end
end Le

namespace Le
open PySem PySem.Spec PyProof.Rows L2
local macro_rules | `(tactic| wtm_at "ev1") => `(tactic| first
  | with_reducible exact ev_int | with_reducible exact ev_str | with_reducible exact ev_bl | with_reducible exact ev_non
  | with_reducible apply ev_var | with_reducible apply ev_op | with_reducible apply ev_chain
  | with_reducible apply ev_and | with_reducible apply ev_or | with_reducible apply ev_not
  | with_reducible apply et_and | with_reducible apply et_or | with_reducible apply et_not | with_reducible apply et_test | with_reducible apply et_B | with_reducible apply et_tru
  | with_reducible apply ev_if
  | with_reducible apply ev_tup | with_reducible apply ev_lst | with_reducible apply ea_cons | with_reducible exact ea_nil | with_reducible apply ev_cb
  | with_reducible exact rv_add | with_reducible exact rv_sub | with_reducible exact rv_lt | with_reducible exact rv_le | with_reducible exact rv_gt | with_reducible exact rv_ge
  | with_reducible exact rv_S | with_reducible exact rv_eqS | with_reducible exact rv_neS | with_reducible exact rv_eqI | with_reducible exact rv_neI | with_reducible exact rv_isN | with_reducible exact rv_notN | with_reducible exact rv_isB
  | with_reducible apply rv_ixT | with_reducible apply rv_ixL
  | with_reducible exact rc_lenL | with_reducible exact rc_lenT | with_reducible exact rc_list | with_reducible exact rc_tuple | with_reducible exact rc_intI | with_reducible exact rc_intB | with_reducible exact rc_min | with_reducible exact rc_max
  | wtm_at "evc"
  | (with_reducible apply dv_id; assumption) | (with_reducible apply dv_mono; assumption) | with_reducible apply dv_pin
  | (with_reducible intro _) | (with_reducible apply at_id; assumption) | exact rfl | (with_reducible apply le_id; exact Nat.le_of_ble_eq_true rfl))
local macro_rules | `(tactic| wtm_at "ev") => `(tactic| repeat' (wtm_at "ev1"))
local macro_rules | `(tactic| wtm_at "jj") => `(tactic| first | assumption | exact Ext.j (by assumption))
local macro_rules | `(tactic| wtm_at "evc") => `(tactic| first | with_reducible apply ev_contains | with_reducible apply ev_includes | with_reducible apply ev_touches | with_reducible apply ev_cover_of | with_reducible apply ev_w_cover_of | with_reducible apply ev_w_within | with_reducible apply ev_w_touches | with_reducible apply ev_least_record | with_reducible apply ev_selected | with_reducible apply ev_w_rows | with_reducible apply ev_ask | with_reducible apply ev_w_ask | with_reducible apply ev_apply | with_reducible apply ev_at | with_reducible apply ev_w_at | with_reducible apply ev_results | with_reducible apply ev_w_results | with_reducible apply ev_is_answer_at | with_reducible apply ev_is_true_at | with_reducible apply ev_is_true | with_reducible apply ev_w_is_true | with_reducible apply ev_supports_newest | with_reducible apply ev_supports | with_reducible apply ev_w_supports | with_reducible apply ev_accepts | with_reducible apply ev_w_accepts | with_reducible apply ev_w_is_right | with_reducible apply ev_w_reach | with_reducible apply ev_w_mix | with_reducible apply ev_w_number | with_reducible apply ev_w_is_integer | with_reducible apply ev_w_tells)
section
variable {P : Program} {w : World} {K : PySem.W.Frag} {mg : Str → Option Value} {base : Heap}
theorem sc_w_ask : FnScope ["_law_records", "_law_question_here", "_law_rows_here", "_law_best", "_law_key_here", "_law_value"] ["_law_records", "_law_question_here"] d_w_ask.scope := ⟨rfl, rfl, rfl, by decide +kernel, rfl, by decide +kernel, by decide +kernel⟩
theorem g_w_ask (T : Tx K mg) (G_w_rows : Good P w K mg base 1 "_law_rows" ["_law_records", "_law_cover_here"] sp_w_rows) (G_w_cover_of : Good P w K mg base 1 "_law_cover_of" ["_law_question_here"] sp_w_cover_of) : Good P w K mg base 2 "_law_ask" ["_law_records", "_law_question_here"] sp_w_ask := by
  refine good_def (D_w_ask T.c) (T.glo _ (F_g_w_ask T.c)) (fun _ _ _ _ _ _ us hl => match us, hl with | [_, _], _ => rfl) sc_w_ask (len_G fun _ => rfl) ⟨_, fun f cdv A outer s H E hr =>
    (pss_cons (ps_set (i := 2) sc_w_ask.nd rfl (Or.inl rfl) (pe_cG G_w_rows hr rfl (pa_cons (pv 0) (pa_cons (pe_cG G_w_cover_of hr rfl (pa_cons (pv 1) pa_nil)) pa_nil))))
      (pss_cons (ps_if (pt_cmpR op_eq (pe_ix (k_ix_tup (K := K) rfl) (pv 1) pe_int (fun _ _ => rfl)) pe_str (nomark _)) (pss_one (ps_ret (pe_ifExp (pt_cmpR op_gt (pe_callB (k_len (K := K) rfl) (by rfl) (T.free _ (F_b_len T.c)) (by decide +kernel) (pa_cons (pv 2) pa_nil)) pe_int (nomark _)) (pe_ix (k_ix_tup (K := K) rfl) (pe_ix (k_ix_list (K := K) rfl) (pv 2) pe_int (fun _ _ => rfl)) pe_int (fun _ _ => rfl)) pe_non))) pss_nil)
      (pss_cons (ps_if (pt_cmpR op_eq (pe_ix (k_ix_tup (K := K) rfl) (pv 1) pe_int (fun _ _ => rfl)) pe_str (nomark _)) (pss_one (ps_ret (pe_callB (k_len (K := K) rfl) (by rfl) (T.free _ (F_b_len T.c)) (by decide +kernel) (pa_cons (pv 2) pa_nil)))) pss_nil)
      (pss_cons (ps_if (pt_cmpR op_eq (pe_ix (k_ix_tup (K := K) rfl) (pv 1) pe_int (fun _ _ => rfl)) pe_str (nomark _)) (pss_one (ps_ret (pe_callB (k_sum (K := K) rfl rfl) (by rfl) (T.free _ (F_b_sum T.c)) (by decide +kernel) (pa_cons (pe_lc (own := [("_law_key_here", 4), ("_law_value", 5)]) (g := gTup K 2 (gCons (gName 4) (gCons (gName 5) gNil))) (tt := tYes) rfl sc_w_ask.nd (k_pi_list (K := K) rfl (pv 2)) (blkOk_by (own := [("_law_key_here", 4), ("_law_value", 5)]) (N := ["_law_records", "_law_question_here", "_law_rows_here", "_law_best", "_law_key_here", "_law_value"]) (sc := d_w_ask.scope) (by decide +kernel)) (fun _ _ _ _ _ => (k_pg_tup (K := K) (n := 2) rfl rfl (pgs_cons (pg_name (i := 4) sc_w_ask.nd rfl (Or.inl rfl)) (pgs_cons (pg_name (i := 5) sc_w_ask.nd rfl (Or.inl rfl)) pgs_nil)))) (fun _ _ _ _ _ => pts_nil) (fun _ _ _ _ _ => (pv 5))) pa_nil)))) pss_nil)
      (pss_cons (ps_if (pt_cmpR op_eq (pe_ix (k_ix_tup (K := K) rfl) (pv 1) pe_int (fun _ _ => rfl)) pe_str (nomark _)) (pss_one (ps_ret (pe_callTy (k_tuple (K := K) rfl) (by rfl) (T.free _ (F_b_tuple T.c)) (by decide +kernel) (pa_cons (pv 2) pa_nil)))) pss_nil)
      (pss_cons (ps_set (i := 3) sc_w_ask.nd rfl (Or.inl rfl) pe_non)
      (pss_cons (ps_for PassesOwn.never rfl (k_pi_list (K := K) rfl (pv 2)) (k_pg_tup (K := K) (n := 2) rfl rfl (pgs_cons (pg_name (i := 4) sc_w_ask.nd rfl (Or.inl rfl)) (pgs_cons (pg_name (i := 5) sc_w_ask.nd rfl (Or.inl rfl)) pgs_nil))) (pss_one (ps_if (PW.pt (pw_or (pt_cmpR op_isN' (pv 3) pe_non (nomark _)) (pw_or1 (pt_cmpR op_lt (pv 5) (pe_ix (k_ix_tup (K := K) rfl) (pv 3) pe_int (fun _ _ => rfl)) (nomark _))))) (pss_one (ps_set (i := 3) sc_w_ask.nd rfl (Or.inl rfl) (pe_tup (pa_cons (pv 4) (pa_cons (pv 5) pa_nil))))) pss_nil)))
      (pss_one (ps_ret (pv 3)))))))))), ?_⟩
  rintro vs H Q E ⟨F, ⟨r, q⟩, j, hv, ⟨ok, qk⟩, kk⟩
  obtain ⟨v1, v2, rfl, h1, h2⟩ := hv.two
  have h1' : Dv F H v1 (kR r) := h1
  have h2' : Dv F H v2 (kQ q) := h2
  apply s_setS j (d := kRows (rowsF (lk r) q.cov))
  · apply ev_w_rows (r := r) (c := q.cov)
    · wtm_at "ev"
    · exact ok
  intro v3 H2 e2 h3
  cases q with
  | get k =>
    apply s_ifTS e2.j
    · wtm_at "ev"
    · decide
    intro H3 e3
    have kk0 : k ∈ keys := qk.1
    have h3' : Dv F H2 v3 (.lst ((oneRow k (lk r k)).map kRow)) := by
      rw [← rows_get kk0]
      exact h3
    cases hl : lk r k with
    | none =>
      rw [hl] at h3'
      have h3'' : Dv F H2 v3 (.lst []) := h3'
      apply s_retK (d1 := .non) e3.j
      · apply ev_ifF
        · wtm_at "ev"
        · rfl
        · wtm_at "ev"
      · exact fun v H5 e hv => kk v H5 ((e2.trans e3).trans e) hv
      · show D.non = oD (lk r k)
        rw [hl]
    | some i =>
      rw [hl] at h3'
      have h3'' : Dv F H2 v3 (.lst [kRow (k, i)]) := h3'
      apply s_retK (d1 := .int i) e3.j
      · apply ev_ifT
        · wtm_at "ev"
        · rfl
        · wtm_at "ev"
      · exact fun v H5 e hv => kk v H5 ((e2.trans e3).trans e) hv
      · show D.int i = oD (lk r k)
        rw [hl]
  | cnt c =>
    have h3' : Dv F H2 v3 (kRows (rowsF (lk r) c)) := h3
    apply s_ifFS e2.j
    · wtm_at "ev"
    · decide
    intro H3 e3
    apply s_ifTS e3.j
    · wtm_at "ev"
    · decide
    intro H4 e4
    apply s_retK e4.j
    · wtm_at "ev"
    · exact fun v H5 e hv => kk v H5 (((e2.trans e3).trans e4).trans e) hv
    · show D.int ((((rowsF (lk r) c).map kRow).length : Nat) : Int) = askF (lk r) (.cnt c)
      rw [List.length_map]
      rfl
  | sum c =>
    have h3' : Dv F H2 v3 (kRows (rowsF (lk r) c)) := h3
    apply s_ifFS e2.j
    · wtm_at "ev"
    · decide
    intro H3 e3
    apply s_ifFS e3.j
    · wtm_at "ev"
    · decide
    intro H4 e4
    apply s_ifTS e4.j
    · wtm_at "ev"
    · decide
    intro H5 e5
    apply s_retK e5.j
    · refine ev_cb (ea_cons (d := .lst (((rowsF (lk r) c).map (·.2)).map D.int)) ?_ ea_nil) rc_sum
      rw [List.map_map]
      refine (ev_lcM (ws := rowsF (lk r) c) (enc := kRow) ?_ (D.int ∘ fun x => x.2) (fun _ _ => rfl) ?_ ?_).toEv
      · wtm_at "ev"
      · have := rowsF_len (lk r) c
        omega
      · intro i x v H' hi e' hv
        obtain ⟨w1, w2, hw1, hw2, hg⟩ := g_two hv
        refine ⟨_, hg, rfl, ?_⟩
        exact ev_var rfl hw2
    · exact fun v H6 e hv => kk v H6 ((((e2.trans e3).trans e4).trans e5).trans e) hv
    · rfl
  | lst c =>
    have h3' : Dv F H2 v3 (kRows (rowsF (lk r) c)) := h3
    apply s_ifFS e2.j
    · wtm_at "ev"
    · decide
    intro H3 e3
    apply s_ifFS e3.j
    · wtm_at "ev"
    · decide
    intro H4 e4
    apply s_ifFS e4.j
    · wtm_at "ev"
    · decide
    intro H5 e5
    apply s_ifTS e5.j
    · wtm_at "ev"
    · decide
    intro H6 e6
    apply s_retK e6.j
    · wtm_at "ev"
    · exact fun v H7 e hv => kk v H7 (((((e2.trans e3).trans e4).trans e5).trans e6).trans e) hv
    · rfl
  | lea c =>
    have h3' : Dv F H2 v3 (kRows (rowsF (lk r) c)) := h3
    apply s_ifFS e2.j
    · wtm_at "ev"
    · decide
    intro H3 e3
    apply s_ifFS e3.j
    · wtm_at "ev"
    · decide
    intro H4 e4
    apply s_ifFS e4.j
    · wtm_at "ev"
    · decide
    intro H5 e5
    apply s_ifFS e5.j
    · wtm_at "ev"
    · decide
    intro H6 e6
    apply s_setS e6.j
    · wtm_at "ev"
    intro vb H7 e7 hb
    apply s_forLS e7.j (Pv := fun i σ' H' => ∃ b a d o, σ' = [some v1, some v2, some v3, some b, a, d] ∧ Dv F H' b (oRow o) ∧ leastF ((rowsF (lk r) c).drop i) o = leastF (rowsF (lk r) c) none)
    · wtm_at "ev"
    · intro H8 e8
      exact ⟨vb, none, none, none, rfl, hb.mono e8, rfl⟩
    · rintro i d v σ' H' hi e' ⟨b, a, cc, o, rfl, ho, hl⟩ hv
      rw [List.getElem?_map] at hi
      obtain ⟨rw_, hr, rfl⟩ := Option.map_eq_some_iff.mp hi
      have hd : (rowsF (lk r) c).drop i = rw_ :: (rowsF (lk r) c).drop (i + 1) := by
        obtain ⟨hlt, e⟩ := List.getElem?_eq_some_iff.mp hr
        rw [List.drop_eq_getElem_cons hlt, e]
      rw [hd] at hl
      refine g_unp2 hv fun x y hx hy => ?_
      cases o with
      | none =>
        have ho2 : Dv F H' b .non := ho
        apply s_ifN (b := true) e'.j
        · apply et_or (b1 := true) (b2 := true)
          · wtm_at "ev"
            exact rv_isN
          · intro z
            cases z
        · intro _ H8 e8
          apply s_set e8.j (d := kRow rw_)
          · wtm_at "ev"
          · intro v H9 e9 hv9
            exact ⟨e8.trans e9, v, _, _, some rw_, rfl, hv9, hl⟩
        · intro z
          cases z
      | some b0 =>
        have ho2 : Dv F H' b (kRow b0) := ho
        apply s_ifN (b := false || decide (rw_.2 < b0.2)) e'.j
        · apply et_or
          · wtm_at "ev"
            exact rv_isN
          · intro _
            wtm_at "ev"
        · intro hlt H8 e8
          apply s_set e8.j (d := kRow rw_)
          · wtm_at "ev"
          · intro v H9 e9 hv9
            refine ⟨e8.trans e9, v, _, _, some rw_, rfl, hv9, ?_⟩
            have hl2 : leastF ((rowsF (lk r) c).drop (i + 1)) (if rw_.2 < b0.2 then some rw_ else some b0) = leastF (rowsF (lk r) c) none := hl
            rw [if_pos (of_decide_eq_true hlt)] at hl2
            exact hl2
        · intro hge H8 e8
          refine ⟨e8, b, _, _, some b0, rfl, ho.mono e8, ?_⟩
          have hl2 : leastF ((rowsF (lk r) c).drop (i + 1)) (if rw_.2 < b0.2 then some rw_ else some b0) = leastF (rowsF (lk r) c) none := hl
          rw [if_neg (of_decide_eq_false hge)] at hl2
          exact hl2
    · rintro σ' H' e' ⟨b, a, d, o, rfl, ho, hl⟩
      apply s_retK e'.j
      · wtm_at "ev"
      · exact fun v H8 e hv => kk v H8 (((((((e2.trans e3).trans e4).trans e5).trans e6).trans e7).trans e').trans e) hv
      · rw [List.length_map, List.drop_length] at hl
        have hl2 : o = leastF (rowsF (lk r) c) none := hl
        rw [hl2]
        rfl
theorem sc_w_is_true : FnScope ["_law_ledger", "_law_leases", "_law_time", "_law_statement_here", "_law_said", "_law_moment"] ["_law_ledger", "_law_leases", "_law_time", "_law_statement_here"] d_w_is_true.scope := ⟨rfl, rfl, rfl, by decide +kernel, rfl, by decide +kernel, by decide +kernel⟩
theorem g_w_is_true (T : Tx K mg)  : Good P w K mg base 1 "_law_is_true" ["_law_ledger", "_law_leases", "_law_time", "_law_statement_here"] sp_w_is_true := by
  refine good_def (D_w_is_true T.c) (T.glo _ (F_g_w_is_true T.c)) (fun _ _ _ _ _ _ us hl => match us, hl with | [_, _, _, _], _ => rfl) sc_w_is_true (len_G fun _ => rfl) ⟨_, fun f cdv A outer s H E hr =>
    (pss_cons (ps_if (PW.pt (pw_and (pt_cmpR op_eq (pe_ix (k_ix_tup (K := K) rfl) (pv 3) pe_int (fun _ _ => rfl)) pe_str (nomark _)) (pw_and1 (pt_cmpR op_eq (pe_callB (k_len (K := K) rfl) (by rfl) (T.free _ (F_b_len T.c)) (by decide +kernel) (pa_cons (pv 3) pa_nil)) pe_int (nomark _))))) (pss_cons (ps_par (i := 4) (j := 5) (by rfl) sc_w_is_true.nd rfl rfl (by decide) rfl rfl (pa_cons (pe_ix (k_ix_tup (K := K) rfl) (pv 3) pe_int (fun _ _ => rfl)) (pa_cons (pe_ix (k_ix_tup (K := K) rfl) (pv 3) pe_int (fun _ _ => rfl)) pa_nil)) (by rfl))
      (pss_cons (ps_if (PW.pt (pw_or (pt_cmpR op_gt (pv 4) (pv 2) (nomark _)) (pw_or (pt_cmpR op_lt (pv 5) pe_int (nomark _)) (pw_or1 (pt_cmpR op_gt (pv 5) (pe_callB (k_len (K := K) rfl) (by rfl) (T.free _ (F_b_len T.c)) (by decide +kernel) (pa_cons (pv 0) pa_nil)) (nomark _)))))) (pss_one (ps_ret pe_bl)) pss_nil)
      (pss_cons (ps_if (PW.pt (pw_and (pt_cmpR op_gt (pv 5) pe_int (nomark _)) (pw_and1 (pt_cmpR op_gt (pe_ix (k_ix_tup (K := K) rfl) (pe_ix (k_ix_list (K := K) rfl) (pv 0) (pe_op op_sub (pv 5) pe_int) (fun _ _ => rfl)) pe_int (fun _ _ => rfl)) (pv 4) (nomark _))))) (pss_one (ps_ret pe_bl)) pss_nil)
      (pss_one (ps_ret (pe_or (pe_cmpR op_eq (pv 5) (pe_callB (k_len (K := K) rfl) (by rfl) (T.free _ (F_b_len T.c)) (by decide +kernel) (pa_cons (pv 0) pa_nil)) (nomark _)) (pe_one (pe_cmpR op_ge (pe_ix (k_ix_tup (K := K) rfl) (pe_ix (k_ix_list (K := K) rfl) (pv 0) (pv 5) (fun _ _ => rfl)) pe_int (fun _ _ => rfl)) (pv 4) (nomark _))))))))) pss_nil)
      (pss_cons (ps_if (PW.pt (pw_or (pt_cmpR op_ne (pe_ix (k_ix_tup (K := K) rfl) (pv 3) pe_int (fun _ _ => rfl)) pe_str (nomark _)) (pw_or (pt_cmpR op_ne (pe_callB (k_len (K := K) rfl) (by rfl) (T.free _ (F_b_len T.c)) (by decide +kernel) (pa_cons (pv 3) pa_nil)) pe_int (nomark _)) (pw_or (pt_cmpR op_lt (pe_ix (k_ix_tup (K := K) rfl) (pv 3) pe_int (fun _ _ => rfl)) pe_int (nomark _)) (pw_or1 (pt_cmpR op_ge (pe_ix (k_ix_tup (K := K) rfl) (pv 3) pe_int (fun _ _ => rfl)) (pe_callB (k_len (K := K) rfl) (by rfl) (T.free _ (F_b_len T.c)) (by decide +kernel) (pa_cons (pv 1) pa_nil)) (nomark _))))))) (pss_one (ps_ret pe_bl)) pss_nil)
      (pss_one (ps_ret (pe_and (pe_cmpR op_isBl (pe_ix (k_ix_tup (K := K) rfl) (pe_ix (k_ix_list (K := K) rfl) (pv 1) (pe_ix (k_ix_tup (K := K) rfl) (pv 3) pe_int (fun _ _ => rfl)) (fun _ _ => rfl)) pe_int (fun _ _ => rfl)) pe_bl (nomark _)) (pe_one (pe_cmpR op_lt (pv 2) (pe_ix (k_ix_tup (K := K) rfl) (pe_ix (k_ix_list (K := K) rfl) (pv 1) (pe_ix (k_ix_tup (K := K) rfl) (pv 3) pe_int (fun _ _ => rfl)) (fun _ _ => rfl)) pe_int (fun _ _ => rfl)) (nomark _)))))))), ?_⟩
  rintro vs H Q E ⟨F, ⟨l, ls, time, st⟩, j, hv, _, kk⟩
  obtain ⟨v1, v2, v3, v4, rfl, h1, h2, h3, h4⟩ := hv.four
  have h1' : Dv F H v1 (kLg l) := h1
  have h2' : Dv F H v2 (kLss ls) := h2
  cases st with
  | «at» said m =>
    apply s_ifTS j
    · wtm_at "ev"
    · rfl
    intro H2 e2
    apply s_parS e2.j
    · wtm_at "ev"
    intro x y H2x e2' hx hy
    have e2x := e2.trans e2'
    apply s_ifS e2'.j
    · wtm_at "ev"
    · intro hb H3 e3
      apply s_retK e3.j
      · wtm_at "ev"
      · exact fun v H5 e hv => kk v H5 ((e2x.trans e3).trans e) hv
      · show D.bl false = .bl (trueAt l time said m)
        unfold trueAt
        rw [List.length_map] at hb
        have z : (!(decide (time < said)) && (decide (0 ≤ m) && decide (m ≤ (l.length : Nat)))) = false := by
          rw [← Bool.not_eq_true]
          intro q
          obtain ⟨q1, q2⟩ := Bool.and_eq_true_iff.mp q
          obtain ⟨q2, q3⟩ := Bool.and_eq_true_iff.mp q2
          have hb2 : (decide (time < said) || (decide (m < 0) || decide ((l.length : Nat) < m))) = true := hb
          have q2 := of_decide_eq_true q2
          have q3 := of_decide_eq_true q3
          rw [Bool.not_eq_true'] at q1
          rw [q1, decide_eq_false (show ¬ m < 0 by omega), decide_eq_false (show ¬ ((l.length : Nat) : Int) < m by omega)] at hb2
          cases hb2
        rw [z]
        rfl
    · intro hb H3 e3
      rw [List.length_map] at hb
      have hb2 : (decide (time < said) || (decide (m < 0) || decide ((l.length : Nat) < m))) = false := hb
      obtain ⟨ha, hc⟩ := Bool.or_eq_false_iff.mp hb2
      obtain ⟨hc1, hc2⟩ := Bool.or_eq_false_iff.mp hc
      have m0 : 0 ≤ m := by
        have := of_decide_eq_false hc1
        omega
      have m1 : m ≤ (l.length : Nat) := by
        have := of_decide_eq_false hc2
        omega
      have et : trueAt l time said m = (!(decide (0 < m) && decide (said < tmL l (m - 1))) && (decide (m = (l.length : Nat)) || decide (said ≤ tmL l m))) := by
        unfold trueAt
        rw [ha, decide_eq_true m0, decide_eq_true m1]
        rfl
      have tst : EvT F (tAnd (tTest (tOp (rI0 fun i j => .bl (decide (j < i))) (tVar 5) (tC (.int 0)))) (tTest (tOp (rI0 fun i j => .bl (decide (j < i))) (tOp (rIxT K) (tOp (rIxL K) (tVar 0) (tOp (rI0 fun i j => .int (i - j)) (tVar 5) (tC (.int 1)))) (tC (.int 0))) (tVar 4)))) [some v1, some v2, some v3, some v4, some x, some y] H3 (decide (0 < m) && decide (said < tmL l (m - 1))) := by
        apply et_and
        · wtm_at "ev"
        · intro hp
          have hp2 : 0 < m := of_decide_eq_true hp
          obtain ⟨c, hat, ht, _⟩ := at_cm (l := l) (i := m - 1) (by omega) (by omega)
          rw [ht]
          wtm_at "ev"
      apply s_ifS e3.j tst
      · intro hb2 H4 e4
        apply s_retK e4.j
        · wtm_at "ev"
        · exact fun v H5 e hv => kk v H5 (((e2x.trans e3).trans e4).trans e) hv
        · show D.bl false = .bl (trueAt l time said m)
          rw [et, hb2]
          rfl
      · intro hb2 H4 e4
        apply s_retK (d1 := .bl (decide (m = (l.length : Nat)) || decide (said ≤ tmL l m))) e4.j
        · apply ev_or
          · rw [← len_map kCm l]
            wtm_at "ev"
          · intro hp
            have hp2 : ¬ m = (l.length : Nat) := of_decide_eq_false hp
            obtain ⟨c, hat, ht, _⟩ := at_cm (l := l) (i := m) m0 (by omega)
            rw [ht]
            wtm_at "ev"
        · exact fun v H5 e hv => kk v H5 (((e2x.trans e3).trans e4).trans e) hv
        · show _ = D.bl (trueAt l time said m)
          rw [et, hb2]
          rfl
  | lease i =>
    apply s_ifFS j
    · wtm_at "ev"
    · rfl
    intro H2 e2
    apply s_ifS e2.j (b := !(decide (0 ≤ i) && decide (i < (ls.length : Nat))))
    · have z : EvT F (tOr (tTest (tOp rNe (tOp (rIxT K) (tVar 3) (tC (.int 0))) (tC (.str "lease")))) (tOr (tTest (tOp rNe (tCB (rLen K) (tCons (tVar 3) tNil)) (tC (.int 2)))) (tOr (tTest (tOp (rI0 fun i j => .bl (decide (i < j))) (tOp (rIxT K) (tVar 3) (tC (.int 1))) (tC (.int 0)))) (tTest (tOp (rI0 fun i j => .bl (decide (j ≤ i))) (tOp (rIxT K) (tVar 3) (tC (.int 1))) (tCB (rLen K) (tCons (tVar 1) tNil))))))) (L2.start ["_law_ledger", "_law_leases", "_law_time", "_law_statement_here", "_law_said", "_law_moment"] [v1, v2, v3, v4]) H2
          (false || (false || (decide (i < 0) || decide (((ls.map kLs).length : Nat) ≤ i)))) := by
        apply et_or
        · apply EvT.to
          · wtm_at "ev"
          · decide
        · intro _
          apply et_or
          · apply EvT.to
            · wtm_at "ev"
            · rfl
          · intro _
            wtm_at "ev"
      rw [List.length_map] at z
      have eb : (false || (false || (decide (i < 0) || decide ((ls.length : Nat) ≤ i)))) = !(decide (0 ≤ i) && decide (i < (ls.length : Nat))) := by
        by_cases a : i < 0
        · rw [decide_eq_true a, decide_eq_false (show ¬ 0 ≤ i by omega)]
          rfl
        · rw [decide_eq_false a, decide_eq_true (show 0 ≤ i by omega)]
          by_cases b : ((ls.length : Nat) : Int) ≤ i
          · rw [decide_eq_true b, decide_eq_false (show ¬ i < (ls.length : Nat) by omega)]
            rfl
          · rw [decide_eq_false b, decide_eq_true (show i < (ls.length : Nat) by omega)]
            rfl
      rw [eb] at z
      exact z
    · intro hb H3 e3
      apply s_retK e3.j
      · wtm_at "ev"
      · exact fun v H5 e hv => kk v H5 ((e2.trans e3).trans e) hv
      · show D.bl false = .bl (leaseOn ls time i)
        unfold leaseOn
        rw [Bool.not_eq_true'] at hb
        rw [hb]
        rfl
    · intro hb H3 e3
      rw [Bool.not_eq_false'] at hb
      have i0 := of_decide_eq_true (Bool.and_eq_true_iff.mp hb).1
      have i1 := of_decide_eq_true (Bool.and_eq_true_iff.mp hb).2
      obtain ⟨x, hx⟩ := some_at (l := ls) i0 i1
      have hat := atI_map (f := kLs) i0 hx
      apply s_retK e3.j
      · wtm_at "ev"
      · exact fun v H5 e hv => kk v H5 ((e2.trans e3).trans e) hv
      · show _ = D.bl (leaseOn ls time i)
        unfold leaseOn
        rw [hb, hx]
        show D.bl (decide (x.ret = false) && decide (time < x.til)) = D.bl (true && (!x.ret && decide (time < x.til)))
        cases x.ret <;> rfl
theorem sc_w_supports : FnScope ["_law_leases", "_law_time", "_law_read_here", "_law_answer_here", "_law_number_here", "_law_session", "_law_questions", "_law_promise_here", "_law_evidence_here", "_law_k", "_law_lease"] ["_law_leases", "_law_time", "_law_read_here", "_law_answer_here"] d_w_supports.scope := ⟨rfl, rfl, rfl, by decide +kernel, rfl, by decide +kernel, by decide +kernel⟩
theorem g_w_supports (T : Tx K mg) (G_w_within : Good P w K mg base 1 "_law_within" ["_law_outer", "_law_inner"] sp_w_within) (G_w_cover_of : Good P w K mg base 1 "_law_cover_of" ["_law_question_here"] sp_w_cover_of) : Good P w K mg base 2 "_law_supports" ["_law_leases", "_law_time", "_law_read_here", "_law_answer_here"] sp_w_supports := by
  refine good_def (D_w_supports T.c) (T.glo _ (F_g_w_supports T.c)) (fun _ _ _ _ _ _ us hl => match us, hl with | [_, _, _, _], _ => rfl) sc_w_supports (len_G fun _ => rfl) ⟨_, fun f cdv A outer s H E hr =>
    (pss_cons (ps_asg (pv 2) (k_pg_tup (K := K) (n := 4) rfl rfl (pgs_cons (pg_name (i := 4) sc_w_supports.nd rfl (Or.inl rfl)) (pgs_cons (pg_name (i := 5) sc_w_supports.nd rfl (Or.inl rfl)) (pgs_cons (pg_name (i := 6) sc_w_supports.nd rfl (Or.inl rfl)) (pgs_cons (pg_name (i := 7) sc_w_supports.nd rfl (Or.inl rfl)) pgs_nil))))))
      (pss_cons (ps_set (i := 8) sc_w_supports.nd rfl (Or.inl rfl) (pe_ix (k_ix_tup (K := K) rfl) (pv 3) pe_int (fun _ _ => rfl)))
      (pss_cons (ps_if (pt_cmpR op_eq (pe_ix (k_ix_tup (K := K) rfl) (pv 7) pe_int (fun _ _ => rfl)) pe_str (nomark _)) (pss_one (ps_ret (pe_cmpR (k_eqD (K := K) rfl hr.units) (pv 8) (pe_lst pa_nil) (nomark _)))) pss_nil)
      (pss_cons (ps_if (pt_cmpR op_eq (pe_ix (k_ix_tup (K := K) rfl) (pv 7) pe_int (fun _ _ => rfl)) pe_str (nomark _)) (pss_cons (ps_if (PW.pt (pw_or (pt_cmpR op_ne (pe_callB (k_len (K := K) rfl) (by rfl) (T.free _ (F_b_len T.c)) (by decide +kernel) (pa_cons (pv 8) pa_nil)) pe_int (nomark _)) (pw_or1 (pt_cmpR op_ne (pe_ix (k_ix_tup (K := K) rfl) (pe_ix (k_ix_list (K := K) rfl) (pv 8) pe_int (fun _ _ => rfl)) pe_int (fun _ _ => rfl)) pe_str (nomark _))))) (pss_one (ps_ret pe_bl)) pss_nil)
      (pss_one (ps_ret (pe_and (pe_cmpR op_le (pe_ix (k_ix_tup (K := K) rfl) (pe_ix (k_ix_list (K := K) rfl) (pv 8) pe_int (fun _ _ => rfl)) pe_int (fun _ _ => rfl)) (pe_ix (k_ix_tup (K := K) rfl) (pv 3) pe_int (fun _ _ => rfl)) (nomark _)) (pe_one (pe_cmpR op_ge (pe_ix (k_ix_tup (K := K) rfl) (pe_ix (k_ix_list (K := K) rfl) (pv 8) pe_int (fun _ _ => rfl)) pe_int (fun _ _ => rfl)) (pe_op op_sub (pv 1) (pe_ix (k_ix_tup (K := K) rfl) (pv 7) pe_int (fun _ _ => rfl))) (nomark _))))))) pss_nil)
      (pss_cons (ps_if (pt_cmpR op_ne (pe_callB (k_len (K := K) rfl) (by rfl) (T.free _ (F_b_len T.c)) (by decide +kernel) (pa_cons (pv 8) pa_nil)) (pe_callB (k_len (K := K) rfl) (by rfl) (T.free _ (F_b_len T.c)) (by decide +kernel) (pa_cons (pv 6) pa_nil)) (nomark _)) (pss_one (ps_ret pe_bl)) pss_nil)
      (pss_cons (ps_for PassesOwn.never rfl (pi_range1 (by rfl) (T.free _ (F_b_range T.c)) (pa_cons (pe_callB (k_len (K := K) rfl) (by rfl) (T.free _ (F_b_len T.c)) (by decide +kernel) (pa_cons (pv 6) pa_nil)) pa_nil)) (pg_name (i := 9) sc_w_supports.nd rfl (Or.inl rfl)) (pss_cons (ps_if (pt_cmpR op_ne (pe_ix (k_ix_tup (K := K) rfl) (pe_ix (k_ix_list (K := K) rfl) (pv 8) (pv 9) (fun _ _ => rfl)) pe_int (fun _ _ => rfl)) pe_str (nomark _)) (pss_one (ps_ret pe_bl)) pss_nil)
      (pss_cons (ps_set (i := 10) sc_w_supports.nd rfl (Or.inl rfl) (pe_ix (k_ix_list (K := K) rfl) (pv 0) (pe_ix (k_ix_tup (K := K) rfl) (pe_ix (k_ix_list (K := K) rfl) (pv 8) (pv 9) (fun _ _ => rfl)) pe_int (fun _ _ => rfl)) (fun _ _ => rfl)))
      (pss_one (ps_if (PW.pt (pw_or (pt_not (pt_val (pe_cG G_w_within hr rfl (pa_cons (pe_ix (k_ix_tup (K := K) rfl) (pv 10) pe_int (fun _ _ => rfl)) (pa_cons (pe_cG G_w_cover_of hr rfl (pa_cons (pe_ix (k_ix_list (K := K) rfl) (pv 6) (pv 9) (fun _ _ => rfl)) pa_nil)) pa_nil))))) (pw_or1 (pt_cmpR op_gt (pe_ix (k_ix_tup (K := K) rfl) (pv 10) pe_int (fun _ _ => rfl)) (pe_ix (k_ix_tup (K := K) rfl) (pv 3) pe_int (fun _ _ => rfl)) (nomark _))))) (pss_one (ps_ret pe_bl)) pss_nil)))))
      (pss_one (ps_ret pe_bl)))))))), ?_⟩
  rintro vs H Q E ⟨F, ⟨ls, time, rd, an⟩, j, hv, ⟨ek, qk⟩, kk⟩
  obtain ⟨v1, v2, v3, v4, rfl, h1, h2, h3, h4⟩ := hv.four
  obtain ⟨num, ses, qs, pr⟩ := rd
  obtain ⟨found, mom, ev⟩ := an
  have h1' : Dv F H v1 (kLss ls) := h1
  have h2' : Dv F H v2 (.int time) := h2
  have h3' : Dv F H v3 (.tup [.int num, .str ses, kQs qs, kP pr]) := h3
  have h4' : Dv F H v4 (.tup [.lst found, .int mom, kSs ev]) := h4
  apply s_asgS j
  · wtm_at "ev"
  intro v H2 e2 hv4
  refine g_unp4 hv4 fun w1 w2 w3 w4 hw1 hw2 hw3 hw4 => ?_
  apply s_setS e2.j
  · wtm_at "ev"
  intro vv H3 e3 hvv
  have hvv' : Dv F H3 vv (kSs ev) := hvv
  cases pr with
  | any =>
    apply s_ifTS e3.j
    · wtm_at "ev"
    · decide
    · intro H4 e4
      apply s_retK e4.j
      · apply ev_op (d1 := .lst (ev.map kS)) (d2 := .lst [])
        · wtm_at "ev"
        · wtm_at "ev"
        · refine rv_eqD 2 ?_ ?_ (by decide)
          · rw [D.fit]
            exact fitA_all.mpr fun d hd => by
              obtain ⟨s, _, rfl⟩ := List.mem_map.mp hd
              exact fit_kS s
          · rw [D.fit, fitA]
      · exact fun v H5 e hv => kk v H5 (((e2.trans e3).trans e4).trans e) hv
      · show _ = D.bl ev.isEmpty
        rw [D.eqb]
        cases ev <;> rfl
  | age t =>
    apply s_ifFS e3.j
    · wtm_at "ev"
    · decide
    intro H4 e4
    apply s_ifTS e4.j
    · wtm_at "ev"
    · decide
    intro H5 e5
    match ev, hvv', h4' with
    | [], hvv', h4' =>
      apply s_ifTS e5.j (b := true)
      · apply et_or (b1 := true) (b2 := true)
        · apply EvT.to
          · wtm_at "ev"
          · rfl
        · intro z
          cases z
      · rfl
      · intro H6 e6
        apply s_retK e6.j
        · wtm_at "ev"
        · exact fun v H7 e hv => kk v H7 (((((e2.trans e3).trans e4).trans e5).trans e6).trans e) hv
        · rfl
    | [s], hvv', h4' =>
      cases s with
      | lease i =>
        apply s_ifTS e5.j (b := true)
        · apply et_or (b1 := false) (b2 := true)
          · apply EvT.to
            · wtm_at "ev"
            · rfl
          · intro _
            apply EvT.to
            · wtm_at "ev"
            · decide
        · rfl
        · intro H6 e6
          apply s_retK e6.j
          · wtm_at "ev"
          · exact fun v H7 e hv => kk v H7 (((((e2.trans e3).trans e4).trans e5).trans e6).trans e) hv
          · rfl
      | «at» s m =>
        apply s_ifFS e5.j (b := false)
        · apply et_or (b1 := false) (b2 := false)
          · apply EvT.to
            · wtm_at "ev"
            · rfl
          · intro _
            apply EvT.to
            · wtm_at "ev"
            · decide
        · rfl
        · intro H6 e6
          apply s_retK e6.j
          · wtm_at "ev"
          · exact fun v H7 e hv => kk v H7 (((((e2.trans e3).trans e4).trans e5).trans e6).trans e) hv
          · rfl
    | s :: s2 :: r, hvv', h4' =>
      apply s_ifTS e5.j (b := true)
      · apply et_or (b1 := true) (b2 := true)
        · apply EvT.to
          · wtm_at "ev"
          · show (!decide ((((s :: s2 :: r).map kS).length : Int) = 1)) = true
            rw [List.length_map, List.length_cons, List.length_cons, decide_eq_false (by omega)]
            rfl
        · intro z
          cases z
      · rfl
      · intro H6 e6
        apply s_retK e6.j
        · wtm_at "ev"
        · exact fun v H7 e hv => kk v H7 (((((e2.trans e3).trans e4).trans e5).trans e6).trans e) hv
        · cases s <;> rfl
  | newest =>
    apply s_ifFS e3.j
    · wtm_at "ev"
    · decide
    intro H4 e4
    apply s_ifFS e4.j
    · wtm_at "ev"
    · decide
    intro H5 e5
    apply s_ifS e5.j
    · wtm_at "ev"
    · intro hb H6 e6
      rw [List.length_map, List.length_map, Bool.not_eq_true'] at hb
      have ne : ¬ ev.length = qs.length := fun z => of_decide_eq_false hb (by rw [z])
      apply s_retK e6.j
      · wtm_at "ev"
      · exact fun v H7 e hv => kk v H7 (((((e2.trans e3).trans e4).trans e5).trans e6).trans e) hv
      · show D.bl false = .bl (supN ls qs ev mom)
        unfold supN
        rw [decide_eq_false ne]
        rfl
    intro hb H6 e6
    rw [List.length_map, List.length_map, Bool.not_eq_false'] at hb
    have le : ev.length = qs.length := by
      have z := of_decide_eq_true hb
      omega
    have ql : qs.length ≤ 1000 := qk.2
    apply s_forRS e6.j (n := (qs.length : Nat)) (Pv := fun i σ' H' => ∃ a b, σ' = [some v1, some v2, some v3, some v4, some w1, some w2, some w3, some w4, some vv, a, b] ∧ ((qs.zip ev).take i).all (fun p => supOne ls mom p.1 p.2) = true)
    · rw [← len_map kQ qs]
      wtm_at "ev"
    · omega
    · omega
    · intro H7 e7
      exact ⟨none, none, rfl, rfl⟩
    · rintro i σ' H' hi e' ⟨a, b, rfl, hall⟩
      have hiq : i < qs.length := by omega
      have hie : i < ev.length := by omega
      have hq : qs[i]? = some qs[i] := List.getElem?_eq_getElem hiq
      have hs : ev[i]? = some ev[i] := List.getElem?_eq_getElem hie
      generalize qs[i] = q at hq
      generalize ev[i] = s at hs
      have hatq : atI (qs.map kQ) (i : Int) = some (kQ q) := atI_map (by omega) (by rw [Int.toNat_natCast]; exact hq)
      have hats : atI (ev.map kS) (i : Int) = some (kS s) := atI_map (by omega) (by rw [Int.toNat_natCast]; exact hs)
      have hz : (qs.zip ev)[i]? = some (q, s) := by
        rw [List.getElem?_zip_eq_some]
        exact ⟨hq, hs⟩
      have etake : (qs.zip ev).take (i + 1) = (qs.zip ev).take i ++ [(q, s)] := by
        rw [List.take_succ, hz]
        rfl
      have bad : supOne ls mom q s = false → D.bl false = .bl (supN ls qs ev mom) := fun hn => by
        unfold supN
        have z : ((qs.zip ev).all fun p => supOne ls mom p.1 p.2) = false := by
          rw [← Bool.not_eq_true]
          intro ha
          have z := List.all_eq_true.mp ha (q, s) (List.mem_of_getElem? hz)
          rw [hn] at z
          cases z
        rw [z, Bool.and_false]
      show tSeq _ _ _ _ _
      have hii : Dv F H' (.int (i : Int)) (.int (i : Int)) := .int _
      cases s with
      | «at» x y =>
        apply s_ifTS e'.j
        · wtm_at "ev"
        · decide
        · intro H7 e7
          apply s_retK e7.j
          · wtm_at "ev"
          · exact fun v H8 e hv => kk v H8 (((((((e2.trans e3).trans e4).trans e5).trans e6).trans e').trans e7).trans e) hv
          · exact bad rfl
      | lease n =>
        obtain ⟨n0, n1⟩ := ek.1 n (List.mem_of_getElem? hs)
        obtain ⟨x, hx⟩ := some_at (l := ls) n0 n1
        have hat := atI_map (f := kLs) n0 hx
        have eone : supOne ls mom q (.lease n) = (incl x.cov q.cov && !decide (mom < x.mom)) := by
          show (match ls[n.toNat]? with
            | some x => incl x.cov q.cov && !decide (mom < x.mom)
            | none => false) = _
          rw [hx]
        rw [incl_within] at eone
        apply s_ifFS e'.j
        · wtm_at "ev"
        · decide
        intro H7 e7
        apply s_setS e7.j
        · wtm_at "ev"
        intro vl H8 e8 hvl
        have hvl' : Dv F H8 vl (.tup [.int x.host, .int x.inc, .int x.req, kC x.cov, .int x.til, .int x.mom, .int x.tim, .bl x.ret]) := hvl
        apply s_ifN e8.j (b := !within x.cov q.cov || decide (mom < x.mom))
        · wtm_at "ev"
        · intro hb H9 e9
          apply s_retK e9.j
          · wtm_at "ev"
          · exact fun v H10 e hv => kk v H10 (((((((((e2.trans e3).trans e4).trans e5).trans e6).trans e').trans e7).trans e8).trans e9).trans e) hv
          · refine bad ?_
            rw [eone]
            rcases Bool.or_eq_true_iff.mp hb with z | z
            · rw [Bool.not_eq_true'] at z
              rw [z]
              rfl
            · rw [z, Bool.not_true, Bool.and_false]
        · intro hb H9 e9
          obtain ⟨z1, z2⟩ := Bool.or_eq_false_iff.mp hb
          rw [Bool.not_eq_false'] at z1
          refine ⟨(e7.trans e8).trans e9, _, _, rfl, ?_⟩
          rw [etake, List.all_append, hall, List.all_cons, eone, z1, z2]
          rfl
    · rintro σ' H' e' ⟨a, b, rfl, hall⟩
      apply s_retK e'.j
      · wtm_at "ev"
      · exact fun v H8 e hv => kk v H8 ((((((e2.trans e3).trans e4).trans e5).trans e6).trans e').trans e) hv
      · show D.bl true = .bl (supN ls qs ev mom)
        have z : (qs.zip ev).length = (((qs.length : Nat) : Int)).toNat := by rw [List.length_zip, le, Nat.min_self, Int.toNat_natCast]
        rw [← z, List.take_length] at hall
        unfold supN
        rw [hall, decide_eq_true le]
        rfl
end
end Le

namespace Le
open PySem PySem.Spec PyProof.Rows L2
local macro_rules | `(tactic| wtm_at "ev1") => `(tactic| first
  | with_reducible exact ev_int | with_reducible exact ev_str | with_reducible exact ev_bl | with_reducible exact ev_non
  | with_reducible apply ev_var | with_reducible apply ev_op | with_reducible apply ev_chain
  | with_reducible apply ev_and | with_reducible apply ev_or | with_reducible apply ev_not
  | with_reducible apply et_and | with_reducible apply et_or | with_reducible apply et_not | with_reducible apply et_test | with_reducible apply et_B | with_reducible apply et_tru
  | with_reducible apply ev_if
  | with_reducible apply ev_tup | with_reducible apply ev_lst | with_reducible apply ea_cons | with_reducible exact ea_nil | with_reducible apply ev_cb
  | with_reducible exact rv_add | with_reducible exact rv_sub | with_reducible exact rv_lt | with_reducible exact rv_le | with_reducible exact rv_gt | with_reducible exact rv_ge
  | with_reducible exact rv_S | with_reducible exact rv_eqS | with_reducible exact rv_neS | with_reducible exact rv_eqI | with_reducible exact rv_neI | with_reducible exact rv_isN | with_reducible exact rv_notN | with_reducible exact rv_isB
  | with_reducible apply rv_ixT | with_reducible apply rv_ixL
  | with_reducible exact rc_lenL | with_reducible exact rc_lenT | with_reducible exact rc_list | with_reducible exact rc_tuple | with_reducible exact rc_intI | with_reducible exact rc_intB | with_reducible exact rc_min | with_reducible exact rc_max
  | wtm_at "evc"
  | (with_reducible apply dv_id; assumption) | (with_reducible apply dv_mono; assumption) | with_reducible apply dv_pin
  | (with_reducible intro _) | (with_reducible apply at_id; assumption) | exact rfl | (with_reducible apply le_id; exact Nat.le_of_ble_eq_true rfl))
local macro_rules | `(tactic| wtm_at "ev") => `(tactic| repeat' (wtm_at "ev1"))
local macro_rules | `(tactic| wtm_at "jj") => `(tactic| first | assumption | exact Ext.j (by assumption))
local macro_rules | `(tactic| wtm_at "evc") => `(tactic| first | with_reducible apply ev_contains | with_reducible apply ev_includes | with_reducible apply ev_touches | with_reducible apply ev_cover_of | with_reducible apply ev_w_cover_of | with_reducible apply ev_w_within | with_reducible apply ev_w_touches | with_reducible apply ev_least_record | with_reducible apply ev_selected | with_reducible apply ev_w_rows | with_reducible apply ev_ask | with_reducible apply ev_w_ask | with_reducible apply ev_apply | with_reducible apply ev_at | with_reducible apply ev_w_at | with_reducible apply ev_results | with_reducible apply ev_w_results | with_reducible apply ev_is_answer_at | with_reducible apply ev_is_true_at | with_reducible apply ev_is_true | with_reducible apply ev_w_is_true | with_reducible apply ev_supports_newest | with_reducible apply ev_supports | with_reducible apply ev_w_supports | with_reducible apply ev_accepts | with_reducible apply ev_w_accepts | with_reducible apply ev_w_is_right | with_reducible apply ev_w_reach | with_reducible apply ev_w_mix | with_reducible apply ev_w_number | with_reducible apply ev_w_is_integer | with_reducible apply ev_w_tells)
section
variable {P : Program} {w : World} {K : PySem.W.Frag} {mg : Str → Option Value} {base : Heap}
theorem sc_w_tells : FnScope ["_law_actual", "_law_due"] ["_law_actual", "_law_due"] d_w_tells.scope := ⟨rfl, rfl, rfl, by decide +kernel, rfl, by decide +kernel, by decide +kernel⟩
theorem g_w_tells (T : Tx K mg)  : Good P w K mg base 1 "_law_tells" ["_law_actual", "_law_due"] sp_w_tells := by
  refine good_def (D_w_tells T.c) (T.glo _ (F_g_w_tells T.c)) (fun _ _ _ _ _ _ us hl => match us, hl with | [_, _], _ => rfl) sc_w_tells (len_G fun _ => rfl) ⟨_, fun f cdv A outer s H E hr =>
    (pss_cons (ps_if (k_tru (K := K) rfl (pv 1)) (pss_one (ps_ret (pe_cmpR op_isBl (pv 0) pe_bl (nomark _)))) pss_nil)
      (pss_one (ps_ret (pe_cmpR op_isBl (pv 0) pe_bl (nomark _))))), ?_⟩
  rintro vs H Q E ⟨F, ⟨a, b⟩, j, hv, _, kk⟩
  obtain ⟨v1, v2, rfl, h1, h2⟩ := hv.two
  have h1' : Dv F H v1 (.bl a) := h1
  have h2' : Dv F H v2 (.bl b) := h2
  apply s_ifS j (b := b)
  · wtm_at "ev"
  · intro hb H2 e2
    apply s_retK e2.j
    · wtm_at "ev"
    · exact fun v H5 e hv => kk v H5 (e2.trans e) hv
    · show D.bl (decide (a = true)) = .bl (decide (a = b))
      rw [hb]
  · intro hb H2 e2
    apply s_retK e2.j
    · wtm_at "ev"
    · exact fun v H5 e hv => kk v H5 (e2.trans e) hv
    · show D.bl (decide (a = false)) = .bl (decide (a = b))
      rw [hb]
theorem sc_w_is_integer : FnScope ["_law_actual"] ["_law_actual"] d_w_is_integer.scope := ⟨rfl, rfl, rfl, by decide +kernel, rfl, by decide +kernel, by decide +kernel⟩
theorem g_w_is_integer (T : Tx K mg)  : Good P w K mg base 1 "_law_is_integer" ["_law_actual"] sp_w_is_integer := by
  refine good_def (D_w_is_integer T.c) (T.glo _ (F_g_w_is_integer T.c)) (fun _ _ _ _ _ _ us hl => match us, hl with | [_], _ => rfl) sc_w_is_integer (len_G fun _ => rfl) ⟨_, fun f cdv A outer s H E hr =>
    (pss_one (ps_ret (pe_and (pe_callB (k_isi (K := K) rfl) (by rfl) (T.free _ (F_b_isinstance T.c)) (by decide +kernel) (pa_cons (pv 0) (pa_cons (pe_bltn (v := .ty "int") (by rfl) (T.free _ (F_b_int T.c)) (by decide +kernel) rfl) pa_nil))) (pe_one (pe_not (pe_callB (k_isi (K := K) rfl) (by rfl) (T.free _ (F_b_isinstance T.c)) (by decide +kernel) (pa_cons (pv 0) (pa_cons (pe_bltn (v := .ty "bool") (by rfl) (T.free _ (F_b_bool T.c)) (by decide +kernel) rfl) pa_nil)))))))), ?_⟩
  rintro vs H Q E ⟨F, d, j, hv, hd, kk⟩
  obtain ⟨v1, rfl, h1⟩ := hv.one
  have h1' : Dv F H v1 d := h1
  have go : ∀ (b c : Bool), tyN d ≠ "" → kitB (tyN d) "int" = some b → kitB (tyN d) "bool" = some c → (b && !c) = isIntD d → tRet (tAndV (tCB (rIsi K) (tCons (tVar 0) (tCons (tC (.ty "int")) tNil))) (tNotV (tCB (rIsi K) (tCons (tVar 0) (tCons (tC (.ty "bool")) tNil))))) { nx := fun _ H' => Q .non H', rt := Q } (L2.start ["_law_actual"] [v1]) H := by
    intro b c hn hb hc he
    apply s_retK j
    · apply ev_and
      · exact ev_isi (d := d) (by wtm_at "ev") hn hb
      · intro _
        apply ev_not
        exact ev_isi (d := d) (by wtm_at "ev") hn hc
    · exact kk
    · exact congrArg D.bl he
  cases d with
  | non => exact go false false (by decide) (by decide +kernel) (by decide +kernel) rfl
  | int i => exact go true false (show "int" ≠ "" by decide) (show kitB "int" "int" = some true by decide +kernel) (show kitB "int" "bool" = some false by decide +kernel) rfl
  | str x => exact go false false (show "str" ≠ "" by decide) (show kitB "str" "int" = some false by decide +kernel) (show kitB "str" "bool" = some false by decide +kernel) rfl
  | tup xs => exact go false false (show "tuple" ≠ "" by decide) (show kitB "tuple" "int" = some false by decide +kernel) (show kitB "tuple" "bool" = some false by decide +kernel) rfl
  | lst xs => exact go false false (show "list" ≠ "" by decide) (show kitB "list" "int" = some false by decide +kernel) (show kitB "list" "bool" = some false by decide +kernel) rfl
  | bl b => simp [D.fit] at hd
  | dic r => simp [D.fit] at hd
  | adr a => simp [D.fit] at hd
theorem sc_w_mix : FnScope ["_law_cell", "_law_number_here"] ["_law_cell"] d_w_mix.scope := ⟨rfl, rfl, rfl, by decide +kernel, rfl, by decide +kernel, by decide +kernel⟩
theorem g_w_mix (T : Tx K mg)  : Good P w K mg base 1 "_law_mix" ["_law_cell"] sp_w_mix := by
  refine good_def (D_w_mix T.c) (T.glo _ (F_g_w_mix T.c)) (fun _ _ _ _ _ _ us hl => match us, hl with | [_], _ => rfl) sc_w_mix (len_G fun _ => rfl) ⟨_, fun f cdv A outer s H E hr =>
    (pss_cons (ps_set (i := 1) sc_w_mix.nd rfl (Or.inl rfl) (pe_op op_mod (pe_callTy call_int' (by rfl) (T.free _ (F_b_int T.c)) (by decide +kernel) (pa_cons (pv 0) pa_nil)) pe_int))
      (pss_cons (ps_set (i := 1) sc_w_mix.nd rfl (Or.inl rfl) (pe_op op_mod (pe_callTy call_int' (by rfl) (T.free _ (F_b_int T.c)) (by decide +kernel) (pa_cons (pe_op op_add (pe_op op_mul (pv 1) pe_int) pe_int) pa_nil)) pe_int))
      (pss_one (ps_ret (pe_op op_mod (pe_callTy call_int' (by rfl) (T.free _ (F_b_int T.c)) (by decide +kernel) (pa_cons (pe_op op_add (pe_op op_mul (pv 1) pe_int) pe_int) pa_nil)) pe_int))))), ?_⟩
  rintro vs H Q E ⟨F, i, j, hv, _, kk⟩
  obtain ⟨v1, rfl, h1⟩ := hv.one
  have h1' : Dv F H v1 (.int i) := h1
  have b1 : 0 ≤ i % 2147483647 ∧ i % 2147483647 < 2147483647 := ⟨Int.emod_nonneg _ (by decide), Int.emod_lt_of_pos _ (by decide)⟩
  apply s_setS j
  · apply ev_op
    · wtm_at "ev"
    · wtm_at "ev"
    · exact rv_I (show (0 : Int) < 2147483647 by decide) fun _ => .int _
  intro x H2 e2 hx
  have hx' : Dv F H2 x (.int (i % 2147483647)) := hx
  have b2 : 0 ≤ (i % 2147483647 * 48271 + 11) % 2147483647 ∧ (i % 2147483647 * 48271 + 11) % 2147483647 < 2147483647 := ⟨Int.emod_nonneg _ (by decide), Int.emod_lt_of_pos _ (by decide)⟩
  apply s_setS e2.j
  · apply ev_op
    · apply ev_cb
      · apply ea_cons
        · apply ev_op
          · apply ev_op (d := .int (i % 2147483647 * 48271))
            · wtm_at "ev"
            · wtm_at "ev"
            · exact rv_I (show CMul (i % 2147483647) 48271 from Or.inl ⟨by omega, by omega⟩) fun _ => .int _
          · wtm_at "ev"
          · exact rv_add
        · exact ea_nil
      · exact rc_intI
    · wtm_at "ev"
    · exact rv_I (show (0 : Int) < 2147483647 by decide) fun _ => .int _
  intro y H3 e3 hy
  have hy' : Dv F H3 y (.int ((i % 2147483647 * 48271 + 11) % 2147483647)) := hy
  apply s_ret e3.j (d := .int (mixF i))
  · apply ev_op (d1 := .int ((i % 2147483647 * 48271 + 11) % 2147483647 * 69621 + 5))
    · apply ev_cb
      · apply ea_cons
        · apply ev_op
          · apply ev_op (d := .int ((i % 2147483647 * 48271 + 11) % 2147483647 * 69621))
            · wtm_at "ev"
            · wtm_at "ev"
            · exact rv_I (show CMul ((i % 2147483647 * 48271 + 11) % 2147483647) 69621 from Or.inl ⟨by omega, by omega⟩) fun _ => .int _
          · wtm_at "ev"
          · exact rv_add
        · exact ea_nil
      · exact rc_intI
    · wtm_at "ev"
    · exact rv_I (show (0 : Int) < 2147483629 by decide) fun _ => .int _
  · exact fun v H5 e hv => kk v H5 ((e2.trans e3).trans e) hv
theorem sc_w_number : FnScope ["_law_cell", "_law_first"] ["_law_cell"] d_w_number.scope := ⟨rfl, rfl, rfl, by decide +kernel, rfl, by decide +kernel, by decide +kernel⟩
theorem g_w_number (T : Tx K mg) (G_w_mix : Good P w K mg base 1 "_law_mix" ["_law_cell"] sp_w_mix) : Good P w K mg base 2 "_law_number" ["_law_cell"] sp_w_number := by
  refine good_def (D_w_number T.c) (T.glo _ (F_g_w_number T.c)) (fun _ _ _ _ _ _ us hl => match us, hl with | [_], _ => rfl) sc_w_number (len_G fun _ => rfl) ⟨_, fun f cdv A outer s H E hr =>
    (pss_cons (ps_if (pt_cmpR op_ge (pv 0) (pe_op op_pow pe_int pe_int) (nomark _)) (pss_one (ps_ret (pv 0))) pss_nil)
      (pss_cons (ps_set (i := 1) sc_w_number.nd rfl (Or.inl rfl) (pe_cG G_w_mix hr rfl (pa_cons (pv 0) pa_nil)))
      (pss_one (ps_ret (pe_op op_add (pe_op op_mul (pv 1) pe_int) (pe_cG G_w_mix hr rfl (pa_cons (pe_op op_add (pv 1) (pv 0)) pa_nil))))))), ?_⟩
  rintro vs H Q E ⟨F, i, j, hv, _, kk⟩
  obtain ⟨v1, rfl, h1⟩ := hv.one
  have h1' : Dv F H v1 (.int i) := h1
  apply s_ifS j (b := decide ((1000000000000000000 : Int) ≤ i))
  · apply et_test
    apply ev_op (d2 := .int 1000000000000000000)
    · wtm_at "ev"
    · apply ev_op
      · wtm_at "ev"
      · wtm_at "ev"
      · exact rv_I (show CPow 10 18 from ⟨by decide, by decide, by decide⟩) fun _ => .int _
    · exact rv_ge
  · intro hb H2 e2
    apply s_retK e2.j
    · wtm_at "ev"
    · exact fun v H5 e hv => kk v H5 (e2.trans e) hv
    · show D.int i = .int (numF i)
      unfold numF
      rw [if_pos (of_decide_eq_true hb)]
  · intro hb H2 e2
    apply s_setS e2.j (d := .int (mixF i))
    · wtm_at "ev"
    intro x H3 e3 hx
    have b1 : 0 ≤ mixF i ∧ mixF i < 2147483629 := ⟨Int.emod_nonneg _ (by decide), Int.emod_lt_of_pos _ (by decide)⟩
    apply s_retK (d1 := .int (mixF i * 2147483629 + mixF (mixF i + i))) e3.j
    · apply ev_op (d1 := .int (mixF i * 2147483629)) (d2 := .int (mixF (mixF i + i)))
      · apply ev_op
        · wtm_at "ev"
        · wtm_at "ev"
        · exact rv_I (show CMul (mixF i) 2147483629 from Or.inl ⟨by omega, by omega⟩) fun _ => .int _
      · wtm_at "ev"
      · exact rv_add
    · exact fun v H5 e hv => kk v H5 ((e2.trans e3).trans e) hv
    · show _ = D.int (numF i)
      unfold numF
      rw [if_neg (of_decide_eq_false hb)]
theorem sc_w_reach : FnScope ["_law_ledger", "_law_questions", "_law_moment", "_law_covers", "_law_last", "_law_question_here"] ["_law_ledger", "_law_questions", "_law_moment"] d_w_reach.scope := ⟨rfl, rfl, rfl, by decide +kernel, rfl, by decide +kernel, by decide +kernel⟩
theorem g_w_reach (T : Tx K mg) (G_w_cover_of : Good P w K mg base 1 "_law_cover_of" ["_law_question_here"] sp_w_cover_of) (G_w_touches : Good P w K mg base 1 "_law_touches" ["_law_group_here", "_law_covers"] sp_w_touches) : Good P w K mg base 2 "_law_reach" ["_law_ledger", "_law_questions", "_law_moment"] sp_w_reach := by
  refine good_def (D_w_reach T.c) (T.glo _ (F_g_w_reach T.c)) (fun _ _ _ _ _ _ us hl => match us, hl with | [_, _, _], _ => rfl) sc_w_reach (len_G fun _ => rfl) ⟨_, fun f cdv A outer s H E hr =>
    (pss_cons (ps_setLc (i := 3) (own := [("_law_question_here", 5)]) (g := gName 5) (tt := tYes) rfl sc_w_reach.nd rfl rfl (sw_true rfl rfl rfl (by decide +kernel)) (k_pi_list (K := K) rfl (pv 1)) (blkOk_by (own := [("_law_question_here", 5)]) (N := ["_law_ledger", "_law_questions", "_law_moment", "_law_covers", "_law_last", "_law_question_here"]) (sc := d_w_reach.scope) (by decide +kernel)) (fun _ _ _ _ _ => pg_name (i := 5) sc_w_reach.nd rfl (Or.inl rfl)) (fun _ _ _ _ _ => pts_nil) (fun _ _ _ _ _ => (pe_cG G_w_cover_of hr rfl (pa_cons (pv 5) pa_nil))))
      (pss_cons (ps_set (i := 4) sc_w_reach.nd rfl (Or.inl rfl) (pv 2))
      (pss_cons (ps_while PassesOwn.never (PW.pt (pw_and (pt_cmpR op_lt (pv 4) (pe_callB (k_len (K := K) rfl) (by rfl) (T.free _ (F_b_len T.c)) (by decide +kernel) (pa_cons (pv 0) pa_nil)) (nomark _)) (pw_and1 (pt_not (pt_val (pe_cG G_w_touches hr rfl (pa_cons (pe_ix (k_ix_tup (K := K) rfl) (pe_ix (k_ix_list (K := K) rfl) (pv 0) (pv 4) (fun _ _ => rfl)) pe_int (fun _ _ => rfl)) (pa_cons (pv 3) pa_nil)))))))) (pss_one (ps_set (i := 4) sc_w_reach.nd rfl (Or.inl rfl) (pe_op op_add (pv 4) pe_int))))
      (pss_one (ps_ret (pv 4)))))), ?_⟩
  rintro vs H Q E ⟨F, ⟨l, qs, m⟩, j, hv, ⟨hm, qk⟩, kk⟩
  obtain ⟨v1, v2, v3, rfl, h1, h2, h3⟩ := hv.three
  have h1' : Dv F H v1 (kLg l) := h1
  have h2' : Dv F H v2 (kQs qs) := h2
  have h3' : Dv F H v3 (.int m) := h3
  apply s_setS j (d := .lst ((qs.map Qu.cov).map kC))
  · rw [List.map_map]
    refine (ev_lcM (ws := qs) (enc := kQ) ?_ (kC ∘ Qu.cov) (fun q _ => imm_kC _) ?_ ?_).toEv
    · wtm_at "ev"
    · have : qs.length ≤ 1000 := qk.2
      omega
    · intro i q v H' hi e' hv
      refine ⟨_, fun Q q => q, rfl, ?_⟩
      show Ev F _ _ H' (kC q.cov)
      wtm_at "ev"
  intro vc H2 e2 hvc
  apply s_setS e2.j
  · wtm_at "ev"
  intro vl H3 e3 hvl
  have reach_stop : ∀ n : Nat, l.length ≤ n → reachF l qs n = n := fun n hn => by
    unfold reachF
    rw [List.drop_eq_nil_of_le hn]
    rfl
  have reach_step : ∀ (n : Nat) (c : Cm), l[n]? = some c → reachF l qs n = if (qs.map Qu.cov).any (tch c.2) = true then n else reachF l qs (n + 1) := fun n c hc => by
    obtain ⟨hlt, ec⟩ := List.getElem?_eq_some_iff.mp hc
    unfold reachF
    rw [List.drop_eq_getElem_cons hlt, ec]
    cases hx : (qs.map Qu.cov).any (tch c.2) with
    | true =>
      rw [List.takeWhile_cons_of_neg (by rw [hx]; decide)]
      rfl
    | false =>
      rw [if_neg Bool.false_ne_true, List.takeWhile_cons_of_pos (by rw [hx]; rfl), List.length_cons]
      omega
  apply s_whileS e3.j (fun mm σ' H' => ∃ n : Nat, σ' = [some v1, some v2, some v3, some vc, some (.int (n : Int)), none] ∧ reachF l qs n = reachF l qs m.toNat ∧ mm = l.length - n) (l.length - m.toNat)
  · refine ⟨m.toNat, ?_, rfl, rfl⟩
    have z : m = ((m.toNat : Nat) : Int) := by
      have : 0 ≤ m := hm
      omega
    rw [← z, ← hvl.int_inv]
    rfl
  · rintro mm σ' H' e' ⟨n, rfl, hr, rfl⟩
    have hii : Dv F H' (.int (n : Int)) (.int (n : Int)) := .int _
    by_cases hn : n < l.length
    · have hc : l[n]? = some l[n] := List.getElem?_eq_getElem hn
      generalize l[n] = c at hc
      have hat : atI (l.map kCm) (n : Int) = some (kCm c) := atI_map (by omega) (by rw [Int.toNat_natCast]; exact hc)
      have st := reach_step n c hc
      refine ⟨decide ((n : Int) < (l.length : Nat)) && !((qs.map Qu.cov).any (tch c.2)), ?_, ?_, ?_⟩
      · rw [← len_map kCm l]
        wtm_at "ev"
      · intro hb H4 e4
        obtain ⟨_, hb2⟩ := Bool.and_eq_true_iff.mp hb
        rw [Bool.not_eq_true'] at hb2
        rw [hb2, if_neg Bool.false_ne_true] at st
        apply s_set e4.j
        · wtm_at "ev"
        · intro v H5 e5 hv
          refine ⟨e4.trans e5, l.length - (n + 1), by omega, n + 1, ?_, by rw [← st]; exact hr, rfl⟩
          rw [hv.int_inv]
          rfl
      · intro hb H4 e4
        rw [decide_eq_true (show (n : Int) < (l.length : Nat) by omega)] at hb
        have hb2 : (qs.map Qu.cov).any (tch c.2) = true := by
          cases q : (qs.map Qu.cov).any (tch c.2) with
          | true => rfl
          | false => rw [q] at hb; cases hb
        rw [hb2, if_pos rfl] at st
        apply s_retK e4.j
        · wtm_at "ev"
        · exact fun v H5 e hv => kk v H5 ((((e2.trans e3).trans e').trans e4).trans e) hv
        · show D.int (n : Int) = .int ((reachF l qs m.toNat : Nat) : Int)
          rw [← hr, st]
    · have st := reach_stop n (by omega)
      refine ⟨false && false, ?_, ?_, ?_⟩
      · apply et_and
        · apply EvT.to
          · wtm_at "ev"
          · rw [List.length_map]
            exact decide_eq_false (by omega)
        · intro z
          cases z
      · intro z
        cases z
      · intro _ H4 e4
        apply s_retK e4.j
        · wtm_at "ev"
        · exact fun v H5 e hv => kk v H5 ((((e2.trans e3).trans e').trans e4).trans e) hv
        · show D.int (n : Int) = .int ((reachF l qs m.toNat : Nat) : Int)
          rw [← hr, st]
end
end Le

namespace Le
open PySem PySem.Spec PyProof.Rows L2
local macro_rules | `(tactic| wtm_at "ev1") => `(tactic| first
  | with_reducible exact ev_int | with_reducible exact ev_str | with_reducible exact ev_bl | with_reducible exact ev_non
  | with_reducible apply ev_var | with_reducible apply ev_op | with_reducible apply ev_chain
  | with_reducible apply ev_and | with_reducible apply ev_or | with_reducible apply ev_not
  | with_reducible apply et_and | with_reducible apply et_or | with_reducible apply et_not | with_reducible apply et_test | with_reducible apply et_B | with_reducible apply et_tru
  | with_reducible apply ev_if
  | with_reducible apply ev_tup | with_reducible apply ev_lst | with_reducible apply ea_cons | with_reducible exact ea_nil | with_reducible apply ev_cb
  | with_reducible exact rv_add | with_reducible exact rv_sub | with_reducible exact rv_lt | with_reducible exact rv_le | with_reducible exact rv_gt | with_reducible exact rv_ge
  | with_reducible exact rv_S | with_reducible exact rv_eqS | with_reducible exact rv_neS | with_reducible exact rv_eqI | with_reducible exact rv_neI | with_reducible exact rv_isN | with_reducible exact rv_notN | with_reducible exact rv_isB
  | with_reducible apply rv_ixT | with_reducible apply rv_ixL
  | with_reducible exact rc_lenL | with_reducible exact rc_lenT | with_reducible exact rc_list | with_reducible exact rc_tuple | with_reducible exact rc_intI | with_reducible exact rc_intB | with_reducible exact rc_min | with_reducible exact rc_max
  | wtm_at "evc"
  | (with_reducible apply dv_id; assumption) | (with_reducible apply dv_mono; assumption) | with_reducible apply dv_pin
  | (with_reducible intro _) | (with_reducible apply at_id; assumption) | exact rfl | (with_reducible apply le_id; exact Nat.le_of_ble_eq_true rfl))
local macro_rules | `(tactic| wtm_at "ev") => `(tactic| repeat' (wtm_at "ev1"))
local macro_rules | `(tactic| wtm_at "jj") => `(tactic| first | assumption | exact Ext.j (by assumption))
local macro_rules | `(tactic| wtm_at "evc") => `(tactic| first | with_reducible apply ev_contains | with_reducible apply ev_includes | with_reducible apply ev_touches | with_reducible apply ev_cover_of | with_reducible apply ev_w_cover_of | with_reducible apply ev_w_within | with_reducible apply ev_w_touches | with_reducible apply ev_least_record | with_reducible apply ev_selected | with_reducible apply ev_w_rows | with_reducible apply ev_ask | with_reducible apply ev_w_ask | with_reducible apply ev_apply | with_reducible apply ev_at | with_reducible apply ev_w_at | with_reducible apply ev_results | with_reducible apply ev_w_results | with_reducible apply ev_is_answer_at | with_reducible apply ev_is_true_at | with_reducible apply ev_is_true | with_reducible apply ev_w_is_true | with_reducible apply ev_supports_newest | with_reducible apply ev_supports | with_reducible apply ev_w_supports | with_reducible apply ev_accepts | with_reducible apply ev_w_accepts | with_reducible apply ev_w_is_right | with_reducible apply ev_w_reach | with_reducible apply ev_w_mix | with_reducible apply ev_w_number | with_reducible apply ev_w_is_integer | with_reducible apply ev_w_tells)
def isT : D → Bool
  | .tup _ => true
  | _ => false
def isL : D → Bool
  | .lst _ => true
  | _ => false
def isS : D → Bool
  | .str _ => true
  | _ => false
theorem kitT (d : D) : tyN d ≠ "" → kitB (tyN d) "tuple" = some (isT d) := fun hd => by
  cases d with
  | non => decide +kernel
  | bl _ => exact (show kitB "bool" "tuple" = some false by decide +kernel)
  | int _ => exact (show kitB "int" "tuple" = some false by decide +kernel)
  | str _ => exact (show kitB "str" "tuple" = some false by decide +kernel)
  | tup _ => exact (show kitB "tuple" "tuple" = some true by decide +kernel)
  | lst _ => exact (show kitB "list" "tuple" = some false by decide +kernel)
  | dic _ => exact (show kitB "dict" "tuple" = some false by decide +kernel)
  | adr _ => exact absurd rfl hd
theorem kitL (d : D) : tyN d ≠ "" → kitB (tyN d) "list" = some (isL d) := fun hd => by
  cases d with
  | non => decide +kernel
  | bl _ => exact (show kitB "bool" "list" = some false by decide +kernel)
  | int _ => exact (show kitB "int" "list" = some false by decide +kernel)
  | str _ => exact (show kitB "str" "list" = some false by decide +kernel)
  | tup _ => exact (show kitB "tuple" "list" = some false by decide +kernel)
  | lst _ => exact (show kitB "list" "list" = some true by decide +kernel)
  | dic _ => exact (show kitB "dict" "list" = some false by decide +kernel)
  | adr _ => exact absurd rfl hd
theorem kitS (d : D) : tyN d ≠ "" → kitB (tyN d) "str" = some (isS d) := fun hd => by
  cases d with
  | non => decide +kernel
  | bl _ => exact (show kitB "bool" "str" = some false by decide +kernel)
  | int _ => exact (show kitB "int" "str" = some false by decide +kernel)
  | str _ => exact (show kitB "str" "str" = some true by decide +kernel)
  | tup _ => exact (show kitB "tuple" "str" = some false by decide +kernel)
  | lst _ => exact (show kitB "list" "str" = some false by decide +kernel)
  | dic _ => exact (show kitB "dict" "str" = some false by decide +kernel)
  | adr _ => exact absurd rfl hd
theorem fit_ty {b : Bool} {n : Nat} {d : D} (h : d.fit b n = true) : tyN d ≠ "" := by
  cases d with
  | adr _ => simp [D.fit] at h
  | _ => simp [tyN]
section
variable {P : Program} {w : World} {K : PySem.W.Frag} {mg : Str → Option Value} {base : Heap}
section
variable {F : Fr} {σ : L2.St} {H : Hp} {te : TE} {d : D}
theorem ev_isT (h : Ev F te σ H d) (hd : tyN d ≠ "") : Ev F (tCB (rIsi K) (tCons te (tCons (tC (.ty "tuple")) tNil))) σ H (.bl (isT d)) := ev_isi h hd (kitT d hd)
theorem ev_isS (h : Ev F te σ H d) (hd : tyN d ≠ "") : Ev F (tCB (rIsi K) (tCons te (tCons (tC (.ty "str")) tNil))) σ H (.bl (isS d)) := ev_isi h hd (kitS d hd)
theorem ev_isTL (h : Ev F te σ H d) (hd : tyN d ≠ "") : Ev F (tCB (rIsiT K) (tCons te (tCons (tTup (tCons (tC (.ty "tuple")) (tCons (tC (.ty "list")) tNil))) tNil))) σ H (.bl (isT d || isL d)) := ev_isi2 h hd (kitT d hd) (kitL d hd)
/-- the end of it: where the due one is no tuple and no list -/
theorem same_flat {a d : D} {n : Nat} {v1 v2 : V} {Q : VK} (j : F.J H) (h1 : Dv F H v1 a) (h2 : Dv F H v2 d) (ha : a.fit false n = true) (hn : n ≤ 5) (hd : d.fit false n = true) (hT : isT d = false) (hL : isL d = false) {D' : Ends} (hQ : D'.rt = Q)
    (kk : ∀ v H', Ext F H H' → Dv F H' v (.bl (a.eqb d)) → Q v H') :
    tSeq (tIfS (tTest (tOp rIsN' (tVar 1) (tC .non))) (tRet (tOp rIsN' (tVar 0) (tC .non))) tNext)
      (tSeq (tIfS (tB (tCB (rIsi K) (tCons (tVar 1) (tCons (tC (.ty "str")) tNil)))) (tRet (tAndV (tCB (rIsi K) (tCons (tVar 0) (tCons (tC (.ty "str")) tNil))) (tOp rEq (tVar 0) (tVar 1)))) tNext)
      (tRet (tAndV (tCall sp_w_is_integer [] E0 (tCons (tVar 0) tNil)) (tOp rEq (tVar 0) (tVar 1))))) D' [some v1, some v2, none] H := by
  subst hQ
  have at_ := fit_ty ha
  cases d with
  | tup _ => cases hT
  | lst _ => cases hL
  | bl _ => simp [D.fit] at hd
  | dic _ => simp [D.fit] at hd
  | adr _ => simp [D.fit] at hd
  | non =>
    apply s_ifTS j
    · wtm_at "ev"
    · rfl
    · intro H2 e2
      apply s_retK e2.j
      · wtm_at "ev"
      · exact fun v H5 e hv => kk v H5 (e2.trans e) hv
      · cases a <;> first | rfl | (simp [isN, D.eqb])
  | str x =>
    apply s_ifFS j
    · wtm_at "ev"
    · rfl
    intro H2 e2
    apply s_ifTS e2.j
    · apply et_B
      refine ev_isS (d := .str x) ?_ (show "str" ≠ "" by decide)
      wtm_at "ev"
    · rfl
    intro H3 e3
    cases ea : isS a with
    | false =>
      apply s_retK (d1 := .bl (false && false)) e3.j
      · apply ev_and
        · rw [← ea]
          refine ev_isS (d := a) ?_ at_
          wtm_at "ev"
        · intro z
          cases z
      · exact fun v H5 e hv => kk v H5 ((e2.trans e3).trans e) hv
      · cases a <;> first | (cases ea; done) | (simp [D.eqb])
    | true =>
      cases a with
      | str y =>
        apply s_retK e3.j
        · apply ev_and
          · refine ev_isS (d := .str y) ?_ (show "str" ≠ "" by decide)
            wtm_at "ev"
          · intro _
            wtm_at "ev"
        · exact fun v H5 e hv => kk v H5 ((e2.trans e3).trans e) hv
        · rw [D.eqb]
          rfl
      | _ => cases ea
  | int i =>
    apply s_ifFS j
    · wtm_at "ev"
    · rfl
    intro H2 e2
    apply s_ifFS e2.j
    · apply et_B
      refine ev_isS (d := .int i) ?_ (show "int" ≠ "" by decide)
      wtm_at "ev"
    · rfl
    intro H3 e3
    cases ea : isIntD a with
    | false =>
      apply s_retK (d1 := .bl (false && false)) e3.j
      · apply ev_and
        · rw [← ea]
          apply ev_w_is_integer (d := a)
          · wtm_at "ev"
          · exact fit_mono ha hn
        · intro z
          cases z
      · exact fun v H5 e hv => kk v H5 ((e2.trans e3).trans e) hv
      · cases a <;> first | (cases ea; done) | (simp [D.eqb])
    | true =>
      cases a with
      | int y =>
        apply s_retK e3.j
        · apply ev_and
          · apply ev_w_is_integer (d := .int y)
            · wtm_at "ev"
            · rw [D.fit]
          · intro _
            wtm_at "ev"
        · exact fun v H5 e hv => kk v H5 ((e2.trans e3).trans e) hv
        · rw [D.eqb]
          rfl
      | _ => cases ea
end
section
variable {F : Fr} {σ : L2.St} {H : Hp}
/-- the items, one by one -/
theorem same_items {A B : D} {xs ys : List D} {n : Nat} {v1 v2 : V} {Q : VK} (j : F.J H) (h1 : Dv F H v1 A) (h2 : Dv F H v2 B) (fx : fitA false n xs = true) (fy : fitA false n ys = true) (hly : ys.length ≤ 1000) (sy : smallA ys = true)
    (ixA : ∀ H' i x, atI xs i = some x → RV F (rIx K) A (.int i) H' x) (ixB : ∀ H' i x, atI ys i = some x → RV F (rIx K) B (.int i) H' x) (lenA : ∀ H', RC F (rLen K) [A] H' (.int (xs.length : Nat))) (lenB : ∀ H', RC F (rLen K) [B] H' (.int (ys.length : Nat)))
    {D' : Ends} (hQ : D'.rt = Q) (kk : ∀ v H', Ext F H H' → Dv F H' v (.bl (eqbA xs ys)) → Q v H') :
    tSeq (tIfS (tTest (tOp rNe (tCB (rLen K) (tCons (tVar 0) tNil)) (tCB (rLen K) (tCons (tVar 1) tNil)))) (tRet (tC (.bl false))) tNext)
      (tSeq (tFor (iRng1 (tCons (tCB (rLen K) (tCons (tVar 1) tNil)) tNil)) (gName 2) (tIfS (tNot (tB (tCall (sp_w_same n) [] E0 (tCons (tOp (rIx K) (tVar 0) (tVar 2)) (tCons (tOp (rIx K) (tVar 1) (tVar 2)) tNil))))) (tRet (tC (.bl false))) tNext))
      (tRet (tC (.bl true)))) D' [some v1, some v2, none] H := by
  subst hQ
  apply s_ifS j
  · apply et_test
    apply ev_op
    · exact ev_cb (ea_cons (d := A) (by wtm_at "ev") ea_nil) (lenA H)
    · exact ev_cb (ea_cons (d := B) (by wtm_at "ev") ea_nil) (lenB H)
    · exact rv_neI
  · intro hb H2 e2
    rw [Bool.not_eq_true'] at hb
    have ne : xs.length ≠ ys.length := fun z => of_decide_eq_false hb (by rw [z])
    apply s_retK e2.j
    · wtm_at "ev"
    · exact fun v H5 e hv => kk v H5 (e2.trans e) hv
    · cases q : eqbA xs ys with
      | false => rfl
      | true => exact absurd (eqbA_len q) ne
  intro hb H2 e2
  rw [Bool.not_eq_false'] at hb
  have le : xs.length = ys.length := by
    have z := of_decide_eq_true hb
    omega
  have ez := eqbA_zip le
  apply s_forRS e2.j (n := (ys.length : Nat)) (Pv := fun i σ' H' => ∃ a, σ' = [some v1, some v2, a] ∧ ((xs.zip ys).take i).all (fun p => p.1.eqb p.2) = true)
  · exact ev_cb (ea_cons (d := B) (by wtm_at "ev") ea_nil) (lenB H2)
  · omega
  · omega
  · intro H3 e3
    exact ⟨none, rfl, rfl⟩
  · rintro i σ' H' hi e' ⟨a, rfl, hall⟩
    have hiy : i < ys.length := by omega
    have hix : i < xs.length := by omega
    have hx : xs[i]? = some xs[i] := List.getElem?_eq_getElem hix
    have hy : ys[i]? = some ys[i] := List.getElem?_eq_getElem hiy
    generalize xs[i] = x at hx
    generalize ys[i] = y at hy
    have hz : (xs.zip ys)[i]? = some (x, y) := by
      rw [List.getElem?_zip_eq_some]
      exact ⟨hx, hy⟩
    have etake : (xs.zip ys).take (i + 1) = (xs.zip ys).take i ++ [(x, y)] := by
      rw [List.take_succ, hz]
      rfl
    have hii : Dv F H' (.int (i : Int)) (.int (i : Int)) := .int _
    show tIfS _ _ _ _ _ _
    apply s_ifN (b := !(x.eqb y)) e'.j
    · apply et_not
      apply et_B
      apply ev_w_same (a := x) (d := y)
      · apply ea_cons
        · apply ev_op (d1 := A) (d2 := .int (i : Int))
          · wtm_at "ev"
          · wtm_at "ev"
          · exact ixA H' _ _ (atI_nat hx)
        · apply ea_cons
          · apply ev_op (d1 := B) (d2 := .int (i : Int))
            · wtm_at "ev"
            · wtm_at "ev"
            · exact ixB H' _ _ (atI_nat hy)
          · exact ea_nil
      · exact ⟨fitA_all.mp fx x (List.mem_of_getElem? hx), fitA_all.mp fy y (List.mem_of_getElem? hy), smallA_all.mp sy y (List.mem_of_getElem? hy)⟩
    · intro hb H3 e3
      apply s_retK e3.j
      · wtm_at "ev"
      · exact fun v H5 e hv => kk v H5 (((e2.trans e').trans e3).trans e) hv
      · rw [Bool.not_eq_true'] at hb
        have z : eqbA xs ys = false := by
          rw [ez, ← Bool.not_eq_true]
          intro q
          have z := List.all_eq_true.mp q (x, y) (List.mem_of_getElem? hz)
          rw [show ((x, y).1.eqb (x, y).2) = x.eqb y from rfl, hb] at z
          cases z
        rw [z]
    · intro hb H3 e3
      rw [Bool.not_eq_false'] at hb
      refine ⟨e3, _, rfl, ?_⟩
      rw [etake, List.all_append, hall]
      show (true && (x.eqb y && true)) = true
      rw [hb]
      rfl
  · rintro σ' H' e' ⟨a, rfl, hall⟩
    apply s_retK e'.j
    · wtm_at "ev"
    · exact fun v H5 e hv => kk v H5 ((e2.trans e').trans e) hv
    · have z : (xs.zip ys).length = (((ys.length : Nat) : Int)).toNat := by rw [List.length_zip, le, Nat.min_self, Int.toNat_natCast]
      rw [← z, List.take_length] at hall
      rw [ez, hall]
end
theorem sc_w_same : FnScope ["_law_actual", "_law_expected", "_law_k"] ["_law_actual", "_law_expected"] d_w_same.scope := ⟨rfl, rfl, rfl, by decide +kernel, rfl, by decide +kernel, by decide +kernel⟩
theorem g_w_same0 (T : Tx K mg) (G_w_tells : Good P w K mg base 1 "_law_tells" ["_law_actual", "_law_due"] sp_w_tells) (G_w_is_integer : Good P w K mg base 1 "_law_is_integer" ["_law_actual"] sp_w_is_integer) : Good P w K mg base 2 "_law_same" ["_law_actual", "_law_expected"] (sp_w_same 0) := by
  refine good_def (D_w_same T.c) (T.glo _ (F_g_w_same T.c)) (fun _ _ _ _ _ _ us hl => match us, hl with | [_, _], _ => rfl) sc_w_same (len_G fun _ => rfl) ⟨_, fun f cdv A outer s H E hr =>
    (pss_cons (ps_if (pt_val (pe_callB (k_isiT (K := K) rfl) (by rfl) (T.free _ (F_b_isinstance T.c)) (by decide +kernel) (pa_cons (pv 1) (pa_cons (pe_tup (pa_cons (pe_bltn (v := .ty "tuple") (by rfl) (T.free _ (F_b_tuple T.c)) (by decide +kernel) rfl) (pa_cons (pe_bltn (v := .ty "list") (by rfl) (T.free _ (F_b_list T.c)) (by decide +kernel) rfl) pa_nil))) pa_nil)))) pss_never pss_nil)
      (pss_cons (ps_if (pt_cmpR op_isN' (pv 1) pe_non (nomark _)) (pss_one (ps_ret (pe_cmpR op_isN' (pv 0) pe_non (nomark _)))) pss_nil)
      (pss_cons (ps_if (pt_val (pe_callB (k_isi (K := K) rfl) (by rfl) (T.free _ (F_b_isinstance T.c)) (by decide +kernel) (pa_cons (pv 1) (pa_cons (pe_bltn (v := .ty "str") (by rfl) (T.free _ (F_b_str T.c)) (by decide +kernel) rfl) pa_nil)))) (pss_one (ps_ret (pe_and (pe_callB (k_isi (K := K) rfl) (by rfl) (T.free _ (F_b_isinstance T.c)) (by decide +kernel) (pa_cons (pv 0) (pa_cons (pe_bltn (v := .ty "str") (by rfl) (T.free _ (F_b_str T.c)) (by decide +kernel) rfl) pa_nil))) (pe_one (pe_cmpR op_eq (pv 0) (pv 1) (nomark _)))))) pss_nil)
      (pss_one (ps_ret (pe_and (pe_cG G_w_is_integer hr rfl (pa_cons (pv 0) pa_nil)) (pe_one (pe_cmpR op_eq (pv 0) (pv 1) (nomark _))))))))), ?_⟩
  rintro vs H Q E ⟨F, ⟨a, d⟩, j, hv, ⟨ha, hd, hsm⟩, kk⟩
  obtain ⟨v1, v2, rfl, h1, h2⟩ := hv.two
  have h1' : Dv F H v1 a := h1
  have h2' : Dv F H v2 d := h2
  have hd' : d.fit false 0 = true := hd
  have hT : isT d = false := by
    cases d with
    | tup xs => simp [D.fit] at hd'
    | _ => rfl
  have hL : isL d = false := by
    cases d with
    | lst xs => simp [D.fit] at hd'
    | _ => rfl
  apply s_ifFS j
  · apply et_B
    refine ev_isTL (d := d) ?_ (fit_ty hd')
    wtm_at "ev"
  · rw [hT, hL]
    rfl
  intro H2 e2
  exact same_flat e2.j (h1'.mono e2) (h2'.mono e2) ha (Nat.zero_le _) hd' hT hL rfl fun v H5 e hv => kk v H5 (e2.trans e) hv
theorem g_w_sameS {k n : Nat} (hk : 1 ≤ k) (hn5 : n + 1 ≤ 5) (T : Tx K mg) (G_w_tells : Good P w K mg base 1 "_law_tells" ["_law_actual", "_law_due"] sp_w_tells) (G_w_is_integer : Good P w K mg base 1 "_law_is_integer" ["_law_actual"] sp_w_is_integer) (G_w_same : Good P w K mg base k "_law_same" ["_law_actual", "_law_expected"] (sp_w_same n)) : Good P w K mg base (k + 1) "_law_same" ["_law_actual", "_law_expected"] (sp_w_same (n + 1)) := by
  refine good_def (D_w_same T.c) (T.glo _ (F_g_w_same T.c)) (fun _ _ _ _ _ _ us hl => match us, hl with | [_, _], _ => rfl) sc_w_same (len_G fun _ => rfl) ⟨_, fun f cdv A outer s H E hr =>
    (pss_cons (ps_if (pt_val (pe_callB (k_isiT (K := K) rfl) (by rfl) (T.free _ (F_b_isinstance T.c)) (by decide +kernel) (pa_cons (pv 1) (pa_cons (pe_tup (pa_cons (pe_bltn (v := .ty "tuple") (by rfl) (T.free _ (F_b_tuple T.c)) (by decide +kernel) rfl) (pa_cons (pe_bltn (v := .ty "list") (by rfl) (T.free _ (F_b_list T.c)) (by decide +kernel) rfl) pa_nil))) pa_nil)))) (pss_cons (ps_if (PW.pt (pw_or (pt_not (pt_val (pe_cG G_w_tells (hr.mono hk) rfl (pa_cons (pe_callB (k_isi (K := K) rfl) (by rfl) (T.free _ (F_b_isinstance T.c)) (by decide +kernel) (pa_cons (pv 0) (pa_cons (pe_bltn (v := .ty "tuple") (by rfl) (T.free _ (F_b_tuple T.c)) (by decide +kernel) rfl) pa_nil))) (pa_cons (pe_callB (k_isi (K := K) rfl) (by rfl) (T.free _ (F_b_isinstance T.c)) (by decide +kernel) (pa_cons (pv 1) (pa_cons (pe_bltn (v := .ty "tuple") (by rfl) (T.free _ (F_b_tuple T.c)) (by decide +kernel) rfl) pa_nil))) pa_nil))))) (pw_or1 (pt_not (pt_val (pe_callB (k_isiT (K := K) rfl) (by rfl) (T.free _ (F_b_isinstance T.c)) (by decide +kernel) (pa_cons (pv 0) (pa_cons (pe_tup (pa_cons (pe_bltn (v := .ty "tuple") (by rfl) (T.free _ (F_b_tuple T.c)) (by decide +kernel) rfl) (pa_cons (pe_bltn (v := .ty "list") (by rfl) (T.free _ (F_b_list T.c)) (by decide +kernel) rfl) pa_nil))) pa_nil)))))))) (pss_one (ps_ret pe_bl)) pss_nil)
      (pss_cons (ps_if (pt_cmpR op_ne (pe_callB (k_len (K := K) rfl) (by rfl) (T.free _ (F_b_len T.c)) (by decide +kernel) (pa_cons (pv 0) pa_nil)) (pe_callB (k_len (K := K) rfl) (by rfl) (T.free _ (F_b_len T.c)) (by decide +kernel) (pa_cons (pv 1) pa_nil)) (nomark _)) (pss_one (ps_ret pe_bl)) pss_nil)
      (pss_cons (ps_for PassesOwn.never rfl (pi_range1 (by rfl) (T.free _ (F_b_range T.c)) (pa_cons (pe_callB (k_len (K := K) rfl) (by rfl) (T.free _ (F_b_len T.c)) (by decide +kernel) (pa_cons (pv 1) pa_nil)) pa_nil)) (pg_name (i := 2) sc_w_same.nd rfl (Or.inl rfl)) (pss_one (ps_if (pt_not (pt_val (pe_cG G_w_same hr rfl (pa_cons (pe_ix (k_ix_seq (K := K) rfl) (pv 0) (pv 2) (fun _ _ => rfl)) (pa_cons (pe_ix (k_ix_seq (K := K) rfl) (pv 1) (pv 2) (fun _ _ => rfl)) pa_nil))))) (pss_one (ps_ret pe_bl)) pss_nil)))
      (pss_one (ps_ret pe_bl))))) pss_nil)
      (pss_cons (ps_if (pt_cmpR op_isN' (pv 1) pe_non (nomark _)) (pss_one (ps_ret (pe_cmpR op_isN' (pv 0) pe_non (nomark _)))) pss_nil)
      (pss_cons (ps_if (pt_val (pe_callB (k_isi (K := K) rfl) (by rfl) (T.free _ (F_b_isinstance T.c)) (by decide +kernel) (pa_cons (pv 1) (pa_cons (pe_bltn (v := .ty "str") (by rfl) (T.free _ (F_b_str T.c)) (by decide +kernel) rfl) pa_nil)))) (pss_one (ps_ret (pe_and (pe_callB (k_isi (K := K) rfl) (by rfl) (T.free _ (F_b_isinstance T.c)) (by decide +kernel) (pa_cons (pv 0) (pa_cons (pe_bltn (v := .ty "str") (by rfl) (T.free _ (F_b_str T.c)) (by decide +kernel) rfl) pa_nil))) (pe_one (pe_cmpR op_eq (pv 0) (pv 1) (nomark _)))))) pss_nil)
      (pss_one (ps_ret (pe_and (pe_cG G_w_is_integer (hr.mono hk) rfl (pa_cons (pv 0) pa_nil)) (pe_one (pe_cmpR op_eq (pv 0) (pv 1) (nomark _))))))))), ?_⟩
  rintro vs H Q E ⟨F, ⟨a, d⟩, j, hv, ⟨ha, hd, hsm⟩, kk⟩
  obtain ⟨v1, v2, rfl, h1, h2⟩ := hv.two
  have h1' : Dv F H v1 a := h1
  have h2' : Dv F H v2 d := h2
  have ha' : a.fit false (n + 1) = true := ha
  have hd' : d.fit false (n + 1) = true := hd
  have hsm' : d.small = true := hsm
  have at_ := fit_ty ha'
  have dt_ := fit_ty hd'
  have kinds : ∀ (b : Bool), (decide (isT a = isT d) && (isT a || isL a)) = b → ∀ (H2 : Hp), Ext F H H2 → EvT F (tOr (tNot (tB (tCall sp_w_tells [] E0 (tCons (tCB (rIsi K) (tCons (tVar 0) (tCons (tC (.ty "tuple")) tNil))) (tCons (tCB (rIsi K) (tCons (tVar 1) (tCons (tC (.ty "tuple")) tNil))) tNil))))) (tNot (tB (tCB (rIsiT K) (tCons (tVar 0) (tCons (tTup (tCons (tC (.ty "tuple")) (tCons (tC (.ty "list")) tNil))) tNil)))))) (L2.start ["_law_actual", "_law_expected", "_law_k"] [v1, v2]) H2 (!b) := by
    intro b hb H2 e2
    have z : EvT F (tOr (tNot (tB (tCall sp_w_tells [] E0 (tCons (tCB (rIsi K) (tCons (tVar 0) (tCons (tC (.ty "tuple")) tNil))) (tCons (tCB (rIsi K) (tCons (tVar 1) (tCons (tC (.ty "tuple")) tNil))) tNil))))) (tNot (tB (tCB (rIsiT K) (tCons (tVar 0) (tCons (tTup (tCons (tC (.ty "tuple")) (tCons (tC (.ty "list")) tNil))) tNil)))))) (L2.start ["_law_actual", "_law_expected", "_law_k"] [v1, v2]) H2 (!(decide (isT a = isT d)) || !(isT a || isL a)) := by
      apply et_or
      · apply et_not
        apply et_B
        apply ev_w_tells
        apply ea_cons
        · refine ev_isT (d := a) ?_ at_
          wtm_at "ev"
        · apply ea_cons
          · refine ev_isT (d := d) ?_ dt_
            wtm_at "ev"
          · exact ea_nil
      · intro _
        apply et_not
        apply et_B
        refine ev_isTL (d := a) ?_ at_
        wtm_at "ev"
    rw [← Bool.not_and, hb] at z
    exact z
  by_cases hT : isT d = true
  · cases d with
    | tup ys =>
      rw [D.fit] at hd'
      rw [D.small] at hsm'
      obtain ⟨sl, sy⟩ := Bool.and_eq_true_iff.mp hsm'
      apply s_ifTS j
      · apply et_B
        refine ev_isTL (d := .tup ys) ?_ dt_
        wtm_at "ev"
      · rfl
      intro H2 e2
      cases a with
      | tup xs =>
        rw [D.fit] at ha'
        apply s_ifFS e2.j (kinds true rfl H2 e2) rfl
        intro H3 e3
        refine same_items (A := .tup xs) (B := .tup ys) e3.j (h1'.mono (e2.trans e3)) (h2'.mono (e2.trans e3)) ha' hd' (of_decide_eq_true sl) sy (fun H' i x q => rv_ixsT q) (fun H' i x q => rv_ixsT q) (fun H' => rc_lenT) (fun H' => rc_lenT) rfl fun v H5 e hv => kk v H5 ((e2.trans e3).trans e) ?_
        show Dv F H5 v (.bl ((D.tup xs).eqb (D.tup ys)))
        rw [D.eqb]
        exact hv
      | _ =>
        apply s_ifTS e2.j (kinds false (by simp [isT, isL]) H2 e2) rfl
        intro H3 e3
        apply s_retK e3.j
        · wtm_at "ev"
        · exact fun v H5 e hv => kk v H5 ((e2.trans e3).trans e) hv
        · simp [D.eqb]
    | _ => cases hT
  · by_cases hL : isL d = true
    · cases d with
      | lst ys =>
        rw [D.fit] at hd'
        rw [D.small] at hsm'
        obtain ⟨sl, sy⟩ := Bool.and_eq_true_iff.mp hsm'
        apply s_ifTS j
        · apply et_B
          refine ev_isTL (d := .lst ys) ?_ dt_
          wtm_at "ev"
        · rfl
        intro H2 e2
        cases a with
        | lst xs =>
          rw [D.fit] at ha'
          apply s_ifFS e2.j (kinds true rfl H2 e2) rfl
          intro H3 e3
          refine same_items (A := .lst xs) (B := .lst ys) e3.j (h1'.mono (e2.trans e3)) (h2'.mono (e2.trans e3)) ha' hd' (of_decide_eq_true sl) sy (fun H' i x q => rv_ixsL q) (fun H' i x q => rv_ixsL q) (fun H' => rc_lenL) (fun H' => rc_lenL) rfl fun v H5 e hv => kk v H5 ((e2.trans e3).trans e) ?_
          show Dv F H5 v (.bl ((D.lst xs).eqb (D.lst ys)))
          rw [D.eqb]
          exact hv
        | _ =>
          apply s_ifTS e2.j (kinds false (by simp [isT, isL]) H2 e2) rfl
          intro H3 e3
          apply s_retK e3.j
          · wtm_at "ev"
          · exact fun v H5 e hv => kk v H5 ((e2.trans e3).trans e) hv
          · simp [D.eqb]
      | _ => cases hL
    · have hT' : isT d = false := by
        cases q : isT d with
        | false => rfl
        | true => exact absurd q hT
      have hL' : isL d = false := by
        cases q : isL d with
        | false => rfl
        | true => exact absurd q hL
      apply s_ifFS j
      · apply et_B
        refine ev_isTL (d := d) ?_ dt_
        wtm_at "ev"
      · rw [hT', hL']
        rfl
      intro H2 e2
      exact same_flat e2.j (h1'.mono e2) (h2'.mono e2) ha' hn5 hd' hT' hL' rfl fun v H5 e hv => kk v H5 (e2.trans e) hv
end
end Le

namespace Le
open PySem PySem.Spec PyProof.Rows L2
local macro_rules | `(tactic| wtm_at "ev1") => `(tactic| first
  | with_reducible exact ev_int | with_reducible exact ev_str | with_reducible exact ev_bl | with_reducible exact ev_non
  | with_reducible apply ev_var | with_reducible apply ev_op | with_reducible apply ev_chain
  | with_reducible apply ev_and | with_reducible apply ev_or | with_reducible apply ev_not
  | with_reducible apply et_and | with_reducible apply et_or | with_reducible apply et_not | with_reducible apply et_test | with_reducible apply et_B | with_reducible apply et_tru
  | with_reducible apply ev_if
  | with_reducible apply ev_tup | with_reducible apply ev_lst | with_reducible apply ea_cons | with_reducible exact ea_nil | with_reducible apply ev_cb
  | with_reducible exact rv_add | with_reducible exact rv_sub | with_reducible exact rv_lt | with_reducible exact rv_le | with_reducible exact rv_gt | with_reducible exact rv_ge
  | with_reducible exact rv_S | with_reducible exact rv_eqS | with_reducible exact rv_neS | with_reducible exact rv_eqI | with_reducible exact rv_neI | with_reducible exact rv_isN | with_reducible exact rv_notN | with_reducible exact rv_isB
  | with_reducible apply rv_ixT | with_reducible apply rv_ixL
  | with_reducible exact rc_lenL | with_reducible exact rc_lenT | with_reducible exact rc_list | with_reducible exact rc_tuple | with_reducible exact rc_intI | with_reducible exact rc_intB | with_reducible exact rc_min | with_reducible exact rc_max
  | wtm_at "evc"
  | (with_reducible apply dv_id; assumption) | (with_reducible apply dv_mono; assumption) | with_reducible apply dv_pin
  | (with_reducible intro _) | (with_reducible apply at_id; assumption) | exact rfl | (with_reducible apply le_id; exact Nat.le_of_ble_eq_true rfl))
local macro_rules | `(tactic| wtm_at "ev") => `(tactic| repeat' (wtm_at "ev1"))
local macro_rules | `(tactic| wtm_at "jj") => `(tactic| first | assumption | exact Ext.j (by assumption))
local macro_rules | `(tactic| wtm_at "evc") => `(tactic| first | with_reducible apply ev_contains | with_reducible apply ev_includes | with_reducible apply ev_touches | with_reducible apply ev_cover_of | with_reducible apply ev_w_cover_of | with_reducible apply ev_w_within | with_reducible apply ev_w_touches | with_reducible apply ev_least_record | with_reducible apply ev_selected | with_reducible apply ev_w_rows | with_reducible apply ev_ask | with_reducible apply ev_w_ask | with_reducible apply ev_apply | with_reducible apply ev_at | with_reducible apply ev_w_at | with_reducible apply ev_results | with_reducible apply ev_w_results | with_reducible apply ev_is_answer_at | with_reducible apply ev_is_true_at | with_reducible apply ev_is_true | with_reducible apply ev_w_is_true | with_reducible apply ev_supports_newest | with_reducible apply ev_supports | with_reducible apply ev_w_supports | with_reducible apply ev_accepts | with_reducible apply ev_w_accepts | with_reducible apply ev_w_is_right | with_reducible apply ev_w_reach | with_reducible apply ev_w_mix | with_reducible apply ev_w_number | with_reducible apply ev_w_is_integer | with_reducible apply ev_w_tells)
theorem an_fit {an : An} (h : AnOk an) : (D.lst an.found).fit false 3 = true := by
  rw [D.fit]
  exact h.1.1
theorem res_fit (l : List Cm) (qs : List Qu) (n : Nat) : (D.lst (resF l qs n)).fit false 3 = true := by
  rw [D.fit]
  exact fit_resF _ _ _
section
variable {P : Program} {w : World} {K : PySem.W.Frag} {mg : Str → Option Value} {base : Heap}
theorem sc_w_accepts : FnScope ["_law_ledger", "_law_leases", "_law_time", "_law_floor", "_law_read_here", "_law_answer_here", "_law_found", "_law_moment", "_law_evidence_here", "_law_statement_here"] ["_law_ledger", "_law_leases", "_law_time", "_law_floor", "_law_read_here", "_law_answer_here"] d_w_accepts.scope := ⟨rfl, rfl, rfl, by decide +kernel, rfl, by decide +kernel, by decide +kernel⟩
theorem g_w_accepts (T : Tx K mg) (G_w_same : Good P w K mg base 5 "_law_same" ["_law_actual", "_law_expected"] (sp_w_same 3)) (G_w_results : Good P w K mg base 3 "_law_results" ["_law_ledger", "_law_questions", "_law_moment"] sp_w_results) (G_w_is_true : Good P w K mg base 1 "_law_is_true" ["_law_ledger", "_law_leases", "_law_time", "_law_statement_here"] sp_w_is_true) (G_w_supports : Good P w K mg base 2 "_law_supports" ["_law_leases", "_law_time", "_law_read_here", "_law_answer_here"] sp_w_supports) : Good P w K mg base 6 "_law_accepts" ["_law_ledger", "_law_leases", "_law_time", "_law_floor", "_law_read_here", "_law_answer_here"] sp_w_accepts := by
  refine good_def (D_w_accepts T.c) (T.glo _ (F_g_w_accepts T.c)) (fun _ _ _ _ _ _ us hl => match us, hl with | [_, _, _, _, _, _], _ => rfl) sc_w_accepts (len_G fun _ => rfl) ⟨_, fun f cdv A outer s H E hr =>
    (pss_cons (ps_asg (pv 5) (k_pg_tup (K := K) (n := 3) rfl rfl (pgs_cons (pg_name (i := 6) sc_w_accepts.nd rfl (Or.inl rfl)) (pgs_cons (pg_name (i := 7) sc_w_accepts.nd rfl (Or.inl rfl)) (pgs_cons (pg_name (i := 8) sc_w_accepts.nd rfl (Or.inl rfl)) pgs_nil)))))
      (pss_cons (ps_if (PW.pt (pw_or (pt_not (pt_chain op_le op_le (pv 3) (pv 7) (pe_callB (k_len (K := K) rfl) (by rfl) (T.free _ (F_b_len T.c)) (by decide +kernel) (pa_cons (pv 0) pa_nil)))) (pw_or1 (pt_not (pt_val (pe_cG G_w_same hr rfl (pa_cons (pv 6) (pa_cons (pe_cG G_w_results (hr.mono (by decide)) rfl (pa_cons (pv 0) (pa_cons (pe_ix (k_ix_tup (K := K) rfl) (pv 4) pe_int (fun _ _ => rfl)) (pa_cons (pv 7) pa_nil)))) pa_nil)))))))) (pss_one (ps_ret pe_bl)) pss_nil)
      (pss_cons (ps_if (pt_cmpR (k_in_seq (K := K) rfl) pe_bl (pe_lc (own := [("_law_statement_here", 9)]) (g := gName 9) (tt := tYes) rfl sc_w_accepts.nd (k_pi_list (K := K) rfl (pv 8)) (blkOk_by (own := [("_law_statement_here", 9)]) (N := ["_law_ledger", "_law_leases", "_law_time", "_law_floor", "_law_read_here", "_law_answer_here", "_law_found", "_law_moment", "_law_evidence_here", "_law_statement_here"]) (sc := d_w_accepts.scope) (by decide +kernel)) (fun _ _ _ _ _ => pg_name (i := 9) sc_w_accepts.nd rfl (Or.inl rfl)) (fun _ _ _ _ _ => pts_nil) (fun _ _ _ _ _ => (pe_cG G_w_is_true (hr.mono (by decide)) rfl (pa_cons (pv 0) (pa_cons (pv 1) (pa_cons (pv 2) (pa_cons (pv 9) pa_nil))))))) (by rfl)) (pss_one (ps_ret pe_bl)) pss_nil)
      (pss_one (ps_ret (pe_cG G_w_supports (hr.mono (by decide)) rfl (pa_cons (pv 1) (pa_cons (pv 2) (pa_cons (pv 4) (pa_cons (pv 5) pa_nil)))))))))), ?_⟩
  rintro vs H Q E ⟨F, ⟨l, ls, time, fl, rd, an⟩, j, hv, ⟨lk0, hf, ak, qk⟩, kk⟩
  obtain ⟨v1, v2, v3, v4, v5, v6, rfl, h1, h2, h3, h4, h5, h6⟩ := hv.six
  have h1' : Dv F H v1 (kLg l) := h1
  have h2' : Dv F H v2 (kLss ls) := h2
  have h3' : Dv F H v3 (.int time) := h3
  have h4' : Dv F H v4 (.int fl) := h4
  have h5' : Dv F H v5 (.tup [.int rd.num, .str rd.ses, kQs rd.qs, kP rd.pr]) := h5
  have h6' : Dv F H v6 (.tup [.lst an.found, .int an.mom, kSs an.ev]) := h6
  have hf' : 0 ≤ fl := hf
  have ak' : AnOk an := ak
  have qk' : QsOk rd.qs := qk
  apply s_asgS j
  · wtm_at "ev"
  intro v H2 e2 hv4
  refine g_unp3 hv4 fun w1 w2 w3 hw1 hw2 hw3 => ?_
  apply s_ifS e2.j (b := !(decide (fl ≤ an.mom) && decide (an.mom ≤ (l.length : Nat))) || !(eqbA an.found (resF l rd.qs an.mom.toNat)))
  · apply et_or
    · rw [← len_map kCm l]
      wtm_at "ev"
    · intro hb
      rw [Bool.not_eq_false'] at hb
      have m0 : 0 ≤ an.mom := by
        have := of_decide_eq_true (Bool.and_eq_true_iff.mp hb).1
        omega
      apply et_not
      apply et_B
      have z : Ev F (tCall (sp_w_same 3) [] E0 (tCons (tVar 6) (tCons (tCall sp_w_results [] E0 (tCons (tVar 0) (tCons (tOp (rIxT K) (tVar 4) (tC (.int 2))) (tCons (tVar 7) tNil)))) tNil))) (((((L2.start ["_law_ledger", "_law_leases", "_law_time", "_law_floor", "_law_read_here", "_law_answer_here", "_law_found", "_law_moment", "_law_evidence_here", "_law_statement_here"] [v1, v2, v3, v4, v5, v6]).set 6 (some w1)).set 7 (some w2)).set 8 (some w3))) H2 (.bl ((D.lst an.found).eqb (.lst (resF l rd.qs an.mom.toNat)))) := by
        apply ev_w_same (n := 3)
        · apply ea_cons
          · wtm_at "ev"
          · apply ea_cons
            · apply ev_w_results
              · wtm_at "ev"
              · exact ⟨lk0, m0, qk'⟩
            · exact ea_nil
        · exact ⟨an_fit ak', res_fit _ _ _, small_resF _ _ _ qk'.2⟩
      rw [D.eqb] at z
      exact z
  · intro hb H3 e3
    apply s_retK e3.j
    · wtm_at "ev"
    · exact fun v H5 e hv => kk v H5 ((e2.trans e3).trans e) hv
    · show D.bl false = .bl (acc l ls time fl rd an)
      rw [← Bool.not_and, Bool.not_eq_true'] at hb
      unfold acc isAns
      rw [hb]
      rfl
  intro hb H3 e3
  rw [← Bool.not_and, Bool.not_eq_false'] at hb
  have ql : an.ev.length ≤ 1000 := ak'.2
  apply s_ifS e3.j (b := (an.ev.map (trueS l ls time)).any fun c => c == false)
  · apply et_test
    apply ev_op (d1 := .bl false) (d2 := .lst ((an.ev.map (trueS l ls time)).map D.bl))
    · wtm_at "ev"
    · rw [List.map_map]
      refine (ev_lcM (ws := an.ev) (enc := kS) ?_ (D.bl ∘ trueS l ls time) (fun _ _ => rfl) ?_ ?_).toEv
      · wtm_at "ev"
      · omega
      · intro i s v H' hi e' hv
        refine ⟨_, fun Q q => q, rfl, ?_⟩
        show Ev F _ _ H' (.bl (trueS l ls time s))
        wtm_at "ev"
    · exact rv_inB
  · intro hb2 H4 e4
    apply s_retK e4.j
    · wtm_at "ev"
    · exact fun v H5 e hv => kk v H5 (((e2.trans e3).trans e4).trans e) hv
    · show D.bl false = .bl (acc l ls time fl rd an)
      have z : an.ev.all (trueS l ls time) = false := by
        rw [← Bool.not_eq_true]
        intro q
        obtain ⟨c, hc, ec⟩ := List.any_eq_true.mp hb2
        obtain ⟨s, hs, rfl⟩ := List.mem_map.mp hc
        rw [List.all_eq_true.mp q s hs] at ec
        cases ec
      unfold acc
      rw [z, Bool.and_false]
      rfl
  intro hb2 H4 e4
  have hall : an.ev.all (trueS l ls time) = true := by
    rw [List.all_eq_true]
    intro s hs
    have z := List.any_eq_false.mp hb2 _ (List.mem_map.mpr ⟨s, hs, rfl⟩)
    cases q : trueS l ls time s with
    | true => rfl
    | false => rw [q] at z; exact absurd rfl z
  have ek : EvOk ls an.ev := ⟨fun i hi => by
    have z : leaseOn ls time i = true := List.all_eq_true.mp hall _ hi
    unfold leaseOn at z
    have z2 := (Bool.and_eq_true_iff.mp z).1
    exact ⟨of_decide_eq_true (Bool.and_eq_true_iff.mp z2).1, of_decide_eq_true (Bool.and_eq_true_iff.mp z2).2⟩, ql⟩
  have h5'' : Dv F H v5 (kRd rd) := h5
  have h6'' : Dv F H v6 (kAn an) := h6
  apply s_retK e4.j
  · apply ev_w_supports (ls := ls) (time := time) (rd := rd) (an := an)
    · wtm_at "ev"
    · exact ⟨ek, qk'⟩
  · exact fun v H5 e hv => kk v H5 (((e2.trans e3).trans e4).trans e) hv
  · show D.bl _ = .bl (acc l ls time fl rd an)
    unfold acc isAns
    rw [hb, hall]
    rfl
theorem sc_w_is_right : FnScope ["_law_ledger", "_law_time", "_law_floor", "_law_read_here", "_law_answer_here", "_law_number_here", "_law_session", "_law_questions", "_law_promise_here", "_law_found", "_law_moment", "_law_evidence_here", "_law_last"] ["_law_ledger", "_law_time", "_law_floor", "_law_read_here", "_law_answer_here"] d_w_is_right.scope := ⟨rfl, rfl, rfl, by decide +kernel, rfl, by decide +kernel, by decide +kernel⟩
theorem g_w_is_right (T : Tx K mg) (G_w_is_integer : Good P w K mg base 1 "_law_is_integer" ["_law_actual"] sp_w_is_integer) (G_w_same : Good P w K mg base 5 "_law_same" ["_law_actual", "_law_expected"] (sp_w_same 3)) (G_w_results : Good P w K mg base 3 "_law_results" ["_law_ledger", "_law_questions", "_law_moment"] sp_w_results) (G_w_reach : Good P w K mg base 2 "_law_reach" ["_law_ledger", "_law_questions", "_law_moment"] sp_w_reach) : Good P w K mg base 6 "_law_is_right" ["_law_ledger", "_law_time", "_law_floor", "_law_read_here", "_law_answer_here"] sp_w_is_right := by
  refine good_def (D_w_is_right T.c) (T.glo _ (F_g_w_is_right T.c)) (fun _ _ _ _ _ _ us hl => match us, hl with | [_, _, _, _, _], _ => rfl) sc_w_is_right (len_G fun _ => rfl) ⟨_, fun f cdv A outer s H E hr =>
    (pss_cons (ps_asg (pv 3) (k_pg_tup (K := K) (n := 4) rfl rfl (pgs_cons (pg_name (i := 5) sc_w_is_right.nd rfl (Or.inl rfl)) (pgs_cons (pg_name (i := 6) sc_w_is_right.nd rfl (Or.inl rfl)) (pgs_cons (pg_name (i := 7) sc_w_is_right.nd rfl (Or.inl rfl)) (pgs_cons (pg_name (i := 8) sc_w_is_right.nd rfl (Or.inl rfl)) pgs_nil))))))
      (pss_cons (ps_asg (pv 4) (k_pg_tup (K := K) (n := 3) rfl rfl (pgs_cons (pg_name (i := 9) sc_w_is_right.nd rfl (Or.inl rfl)) (pgs_cons (pg_name (i := 10) sc_w_is_right.nd rfl (Or.inl rfl)) (pgs_cons (pg_name (i := 11) sc_w_is_right.nd rfl (Or.inl rfl)) pgs_nil)))))
      (pss_cons (ps_if (PW.pt (pw_or (pt_not (pt_val (pe_cG G_w_is_integer (hr.mono (by decide)) rfl (pa_cons (pv 10) pa_nil)))) (pw_or1 (pt_not (pt_chain op_le op_le (pv 2) (pv 10) (pe_callB (k_len (K := K) rfl) (by rfl) (T.free _ (F_b_len T.c)) (by decide +kernel) (pa_cons (pv 0) pa_nil))))))) (pss_one (ps_ret pe_bl)) pss_nil)
      (pss_cons (ps_if (pt_not (pt_val (pe_cG G_w_same hr rfl (pa_cons (pv 9) (pa_cons (pe_cG G_w_results (hr.mono (by decide)) rfl (pa_cons (pv 0) (pa_cons (pv 7) (pa_cons (pv 10) pa_nil)))) pa_nil))))) (pss_one (ps_ret pe_bl)) pss_nil)
      (pss_cons (ps_set (i := 12) sc_w_is_right.nd rfl (Or.inl rfl) (pe_cG G_w_reach (hr.mono (by decide)) rfl (pa_cons (pv 0) (pa_cons (pv 7) (pa_cons (pv 10) pa_nil)))))
      (pss_cons (ps_if (PW.pt (pw_or (pt_cmpR op_eq (pe_ix (k_ix_tup (K := K) rfl) (pv 8) pe_int (fun _ _ => rfl)) pe_str (nomark _)) (pw_or1 (pt_cmpR op_eq (pv 12) (pe_callB (k_len (K := K) rfl) (by rfl) (T.free _ (F_b_len T.c)) (by decide +kernel) (pa_cons (pv 0) pa_nil)) (nomark _))))) (pss_one (ps_ret pe_bl)) pss_nil)
      (pss_one (ps_ret (pe_and (pe_cmpR op_eq (pe_ix (k_ix_tup (K := K) rfl) (pv 8) pe_int (fun _ _ => rfl)) pe_str (nomark _)) (pe_one (pe_cmpR op_ge (pe_ix (k_ix_tup (K := K) rfl) (pe_ix (k_ix_list (K := K) rfl) (pv 0) (pv 12) (fun _ _ => rfl)) pe_int (fun _ _ => rfl)) (pe_op op_sub (pv 1) (pe_ix (k_ix_tup (K := K) rfl) (pv 8) pe_int (fun _ _ => rfl))) (nomark _)))))))))))), ?_⟩
  rintro vs H Q E ⟨F, ⟨l, time, fl, rd, an⟩, j, hv, ⟨lk0, hf, ak, qk⟩, kk⟩
  obtain ⟨v1, v2, v3, v4, v5, rfl, h1, h2, h3, h4, h5⟩ := hv.five
  obtain ⟨num, ses, qs, pr⟩ := rd
  have h1' : Dv F H v1 (kLg l) := h1
  have h2' : Dv F H v2 (.int time) := h2
  have h3' : Dv F H v3 (.int fl) := h3
  have h4' : Dv F H v4 (.tup [.int num, .str ses, kQs qs, kP pr]) := h4
  have h5' : Dv F H v5 (.tup [.lst an.found, .int an.mom, kSs an.ev]) := h5
  have hf' : 0 ≤ fl := hf
  have ak' : AnOk an := ak
  have qk' : QsOk qs := qk
  apply s_asgS j
  · wtm_at "ev"
  intro v H2 e2 hv4
  refine g_unp4 hv4 fun w1 w2 w3 w4 hw1 hw2 hw3 hw4 => ?_
  apply s_asgS e2.j
  · wtm_at "ev"
  intro vv H3 e3 hv5
  refine g_unp3 hv5 fun u1 u2 u3 hu1 hu2 hu3 => ?_
  apply s_ifS e3.j (b := !true || !(decide (fl ≤ an.mom) && decide (an.mom ≤ (l.length : Nat))))
  · apply et_or
    · apply et_not
      apply et_B
      apply ev_w_is_integer (d := .int an.mom)
      · wtm_at "ev"
      · rw [D.fit]
    · intro _
      rw [← len_map kCm l]
      wtm_at "ev"
  · intro hb H4 e4
    apply s_retK e4.j
    · wtm_at "ev"
    · exact fun v H5 e hv => kk v H5 (((e2.trans e3).trans e4).trans e) hv
    · show D.bl false = .bl (right l time fl ⟨num, ses, qs, pr⟩ an)
      have hb2 : (!(decide (fl ≤ an.mom) && decide (an.mom ≤ (l.length : Nat)))) = true := hb
      rw [Bool.not_eq_true'] at hb2
      unfold right isAns
      rw [hb2]
      rfl
  intro hb H4 e4
  have hb2 : (!(decide (fl ≤ an.mom) && decide (an.mom ≤ (l.length : Nat)))) = false := hb
  rw [Bool.not_eq_false'] at hb2
  have m0 : 0 ≤ an.mom := by
    have := of_decide_eq_true (Bool.and_eq_true_iff.mp hb2).1
    omega
  have m1 : an.mom ≤ (l.length : Nat) := of_decide_eq_true (Bool.and_eq_true_iff.mp hb2).2
  apply s_ifS e4.j (b := !((D.lst an.found).eqb (.lst (resF l qs an.mom.toNat))))
  · apply et_not
    apply et_B
    apply ev_w_same (n := 3)
    · apply ea_cons
      · wtm_at "ev"
      · apply ea_cons
        · apply ev_w_results (l := l) (qs := qs) (m := an.mom)
          · wtm_at "ev"
          · exact ⟨lk0, m0, qk'⟩
        · exact ea_nil
    · exact ⟨an_fit ak', res_fit _ _ _, small_resF _ _ _ qk'.2⟩
  · intro hb3 H5 e5
    rw [D.eqb, Bool.not_eq_true'] at hb3
    apply s_retK e5.j
    · wtm_at "ev"
    · exact fun v H6 e hv => kk v H6 ((((e2.trans e3).trans e4).trans e5).trans e) hv
    · show D.bl false = .bl (right l time fl ⟨num, ses, qs, pr⟩ an)
      unfold right isAns
      rw [hb2, hb3]
      rfl
  intro hb3 H5 e5
  rw [D.eqb, Bool.not_eq_false'] at hb3
  have er : right l time fl ⟨num, ses, qs, pr⟩ an = endOk l time pr (reachF l qs an.mom.toNat) := by
    unfold right isAns
    rw [hb2, hb3]
    rfl
  apply s_setS e5.j (d := .int (reachF l qs an.mom.toNat : Nat))
  · apply ev_w_reach
    · wtm_at "ev"
    · exact ⟨m0, qk'⟩
  intro vl H6 e6 hvl
  have hvl' : Dv F H6 vl (.int (reachF l qs an.mom.toNat : Nat)) := hvl
  have rle : reachF l qs an.mom.toNat ≤ l.length := by
    unfold reachF
    have z := (List.takeWhile_sublist (l := l.drop an.mom.toNat) (fun c : Cm => !(qs.map Qu.cov).any (tch c.2))).length_le
    rw [List.length_drop] at z
    omega
  generalize reachF l qs an.mom.toNat = rr at *
  have elen : decide ((rr : Int) = (l.length : Nat)) = decide (rr = l.length) := by
    by_cases q : rr = l.length
    · rw [decide_eq_true q, decide_eq_true (by omega)]
    · rw [decide_eq_false q, decide_eq_false (by omega)]
  cases pr with
  | any =>
    apply s_ifTS e6.j (b := true || decide (rr = l.length))
    · apply et_or (b1 := true)
      · wtm_at "ev"
        exact rv_eqS
      · intro z
        cases z
    · rfl
    intro H7 e7
    apply s_retK e7.j
    · wtm_at "ev"
    · exact fun v H8 e hv => kk v H8 ((((((e2.trans e3).trans e4).trans e5).trans e6).trans e7).trans e) hv
    · show D.bl true = .bl (right l time fl ⟨num, ses, qs, .any⟩ an)
      rw [er]
      rfl
  | newest =>
    apply s_ifS e6.j (b := false || decide (rr = l.length))
    · apply et_or (b1 := false)
      · wtm_at "ev"
        exact rv_eqS
      · intro _
        rw [← elen, ← len_map kCm l]
        wtm_at "ev"
    · intro hr H7 e7
      apply s_retK e7.j
      · wtm_at "ev"
      · exact fun v H8 e hv => kk v H8 ((((((e2.trans e3).trans e4).trans e5).trans e6).trans e7).trans e) hv
      · show D.bl true = .bl (right l time fl ⟨num, ses, qs, .newest⟩ an)
        rw [er]
        exact congrArg D.bl hr.symm
    · intro hr H7 e7
      apply s_retK (d1 := .bl (false && false)) e7.j
      · apply ev_and (b1 := false)
        · wtm_at "ev"
          exact rv_eqS
        · intro z
          cases z
      · exact fun v H8 e hv => kk v H8 ((((((e2.trans e3).trans e4).trans e5).trans e6).trans e7).trans e) hv
      · show D.bl false = .bl (right l time fl ⟨num, ses, qs, .newest⟩ an)
        rw [er]
        exact congrArg D.bl hr.symm
  | age t =>
    apply s_ifS e6.j (b := false || decide (rr = l.length))
    · apply et_or (b1 := false)
      · wtm_at "ev"
        exact rv_eqS
      · intro _
        rw [← elen, ← len_map kCm l]
        wtm_at "ev"
    · intro hr H7 e7
      apply s_retK e7.j
      · wtm_at "ev"
      · exact fun v H8 e hv => kk v H8 ((((((e2.trans e3).trans e4).trans e5).trans e6).trans e7).trans e) hv
      · show D.bl true = .bl (right l time fl ⟨num, ses, qs, .age t⟩ an)
        rw [er]
        have hr2 : decide (rr = l.length) = true := hr
        show _ = D.bl (decide (rr = l.length) || _)
        rw [hr2]
        rfl
    · intro hr H7 e7
      have hr2 : decide (rr = l.length) = false := hr
      have ne := of_decide_eq_false hr2
      obtain ⟨c, hat, ht, _⟩ := at_cm (l := l) (i := (rr : Int)) (by omega) (by omega)
      apply s_retK (d1 := .bl (true && decide (time - t ≤ c.1))) e7.j
      · apply ev_and (b1 := true)
        · wtm_at "ev"
          exact rv_eqS
        · intro _
          wtm_at "ev"
      · exact fun v H8 e hv => kk v H8 ((((((e2.trans e3).trans e4).trans e5).trans e6).trans e7).trans e) hv
      · show _ = D.bl (right l time fl ⟨num, ses, qs, .age t⟩ an)
        rw [er]
        show _ = D.bl (decide (rr = l.length) || decide (time - t ≤ tmL l (rr : Int)))
        rw [hr2, ht]
        rfl
end
end Le

namespace Le
open PySem PySem.Spec PyProof.Rows L2

/-- the law's state: a list at s, of the list of the script's numbers at a -/
def StAt (H : Hp) (s a : Addr) : Prop := (∃ v p q : Int, 0 ≤ p ∧ H s = some (.lst [.int v, .ref a, .int p, .int q])) ∧ ∃ ns : List Int, H a = some (.lst (ns.map V.int)) ∧ ns.length ≤ 63
theorem StAt.ne {H : Hp} {s a : Addr} (h : StAt H s a) : a ≠ s := fun e => by
  obtain ⟨⟨v, p, q, _, hs⟩, ns, ha, _⟩ := h
  rw [e, hs] at ha
  injection ha with ha
  injection ha with ha
  cases ns with
  | nil => cases ha
  | cons n ns =>
    cases ns with
    | nil =>
      injection ha with _ h2
      cases h2
    | cons m ns =>
      injection ha with _ h2
      injection h2 with h3 _
      cases h3
def FD (s a : Addr) : Fr where
  S := fun x => x = s
  U := fun x => x = s ∨ x = a
  J := fun H => StAt H s a
  sub := Or.inl
  live := fun {H x} j u => by
    obtain ⟨⟨v, p, q, _, hs⟩, ns, ha, _⟩ := j
    rcases u with rfl | rfl
    · rw [hs]
      exact fun z => nomatch z
    · rw [ha]
      exact fun z => nomatch z
  loc := fun {H H'} j k => by
    obtain ⟨⟨v, p, q, hp, hs⟩, ns, ha, hl⟩ := j
    exact ⟨⟨v, p, q, hp, k _ _ (Or.inl rfl) hs⟩, ns, k _ _ (Or.inr rfl) ha, hl⟩
/-- in this frame the state may be drawn from -/
structure Drw (F : Fr) (s a : Addr) : Prop where
  ss : F.S s
  j : ∀ H, F.J H → StAt H s a
  put : ∀ H v p q, F.J H → 0 ≤ p → F.J (upd H s (.lst [.int v, .ref a, .int p, .int q]))
theorem drw_FD (s a : Addr) : Drw (FD s a) s a := ⟨rfl, fun _ h => h, fun H v p q h hp => ⟨⟨v, p, q, hp, upd_same⟩, by
  have n := h.ne
  obtain ⟨_, ns, ha, hl⟩ := h
  exact ⟨ns, by rw [upd_ne n]; exact ha, hl⟩⟩⟩
theorem Drw.add {F : Fr} {s a p : Addr} (d : Drw F s a) : Drw (F.add p) s a := ⟨Or.inl d.ss, fun H h => d.j H h.1, fun H v x q h hp => ⟨d.put H v x q h.1 hp, h.2.1, by
  obtain ⟨o, ho, ht⟩ := h.2.2
  exact ⟨o, by rw [upd_ne fun z => h.2.1 (by rw [z]; exact F.sub d.ss)]; exact ho, ht⟩⟩⟩
theorem Drw.pin {F : Fr} {s a p : Addr} {o : HO} (d : Drw F s a) : Drw (F.pin p o) s a := ⟨Or.inl d.ss, fun H h => d.j H h.1, fun H v x q h hp => ⟨d.put H v x q h.1 hp, h.2.1, by
  rw [upd_ne fun z => h.2.1 (by rw [z]; exact F.sub d.ss)]
  exact h.2.2.1, h.2.2.2⟩⟩

def EvAC (F : Fr) (ta : TA) (σ : L2.St) (H : Hp) (C : List D → Prop) : Prop := ∀ H1, Ext F H H1 → ∀ Q : List V → Hp → Prop, (∀ vs H2 ds, Ext F H1 H2 → C ds → DvA F H2 vs ds → Q vs H2) → ta σ H1 Q
def EvTP (F : Fr) (tt : TT) (σ : L2.St) (H : Hp) (P : Bool → Prop) : Prop := ∀ H1, Ext F H H1 → ∀ Q : Bool → Hp → Prop, (∀ b H2, Ext F H1 H2 → P b → Q b H2) → tt σ H1 Q
section
variable {F : Fr} {K : PySem.W.Frag} {σ : L2.St} {H H1 : Hp} {ta tb te : TE} {t : TA} {tt uu : TT} {C C1 C2 C' : D → Prop} {CA : List D → Prop} {P P1 P2 : Bool → Prop} {d : D} {b : Bool} {r : R2}
theorem EvC.imp (h : EvC F te σ H C) (i : ∀ d, C d → C' d) : EvC F te σ H C' := fun H1 e Q q => h H1 e Q fun v H2 d e2 c hv => q v H2 d e2 (i d c) hv
theorem EvC.mono' (e : Ext F H H1) (h : EvC F te σ H C) : EvC F te σ H1 C := fun H2 e2 Q q => h H2 (e.trans e2) Q q
theorem EvTP.mono' (e : Ext F H H1) (h : EvTP F tt σ H P) : EvTP F tt σ H1 P := fun H2 e2 Q q => h H2 (e.trans e2) Q q
theorem Ev.toC1 (h : Ev F te σ H d) : EvC F te σ H (fun x => x = d) := h.toC rfl
theorem EvT.toP (h : EvT F tt σ H b) : EvTP F tt σ H (fun x => x = b) := fun H1 e Q q => h H1 e Q fun H2 e2 => q b H2 e2 rfl
theorem ec_op (ha : EvC F ta σ H C1) (hb : EvC F tb σ H C2) (hr : ∀ d1 d2 H1, Ext F H H1 → C1 d1 → C2 d2 → ∃ d, C d ∧ RV F r d1 d2 H1 d) : EvC F (tOp r ta tb) σ H C := fun H1 e Q q =>
  ha H1 e _ fun x H2 d1 e2 c1 h1 => hb H2 (e.trans e2) _ fun y H3 d2 e3 c2 h2 => by
    obtain ⟨d, cd, rv⟩ := hr d1 d2 H3 ((e.trans e2).trans e3) c1 c2
    exact rv x y H3 (Ext.refl e3.j) (h1.mono e3) h2 Q fun v H4 e4 h4 => q v H4 d ((e2.trans e3).trans e4) cd h4
theorem eac_nil : EvAC F tNil σ H (fun ds => ds = []) := fun H1 e Q q => q [] H1 [] (Ext.refl e.j) rfl .nil
theorem eac_cons {tr : TA} (h : EvC F te σ H C) (hr : EvAC F tr σ H CA) : EvAC F (tCons te tr) σ H (fun ds => ∃ d r, ds = d :: r ∧ C d ∧ CA r) := fun H1 e Q q =>
  h H1 e _ fun v H2 d e2 c hv => hr H2 (e.trans e2) _ fun vs H3 ds e3 ca hvs => q _ H3 (d :: ds) (e2.trans e3) ⟨d, ds, rfl, c, ca⟩ (.cons (hv.mono e3) hvs)
theorem EvAC.imp {CB : List D → Prop} (h : EvAC F t σ H CA) (i : ∀ d, CA d → CB d) : EvAC F t σ H CB := fun H1 e Q q => h H1 e Q fun v H2 d e2 c hv => q v H2 d e2 (i d c) hv
theorem ec_tup (h : EvAC F t σ H CA) (hl : ∀ ds, CA ds → ds.length ≤ 1000) : EvC F (tTup t) σ H (fun d => ∃ ds, d = .tup ds ∧ CA ds) := fun H1 e Q q =>
  h H1 e _ fun vs H2 ds e2 ca hv => ⟨sz_of (by rw [hv.len]; have := hl ds ca; omega), fun p hp => q _ _ (.tup ds) (e2.new hp) ⟨ds, rfl, ca⟩ (.tup upd_same (hv.mono ((Ext.refl e2.j).new hp)))⟩
theorem ec_lst (h : EvAC F t σ H CA) (hl : ∀ ds, CA ds → ds.length ≤ 1000) : EvC F (tLst t) σ H (fun d => ∃ ds, d = .lst ds ∧ CA ds) := fun H1 e Q q =>
  h H1 e _ fun vs H2 ds e2 ca hv => ⟨sz_of (by rw [hv.len]; have := hl ds ca; omega), fun p hp => q _ _ (.lst ds) (e2.new hp) ⟨ds, rfl, ca⟩ (.lst (e2.fresh hp) upd_same (hv.mono ((Ext.refl e2.j).new hp)))⟩
theorem ec_cb {rc : List V → Hp → VK → Prop} (h : EvAC F t σ H CA) (hr : ∀ ds H1, Ext F H H1 → CA ds → ∃ d, C d ∧ RC F rc ds H1 d) : EvC F (tCB rc t) σ H C := fun H1 e Q q =>
  h H1 e _ fun vs H2 ds e2 ca hv => by
    obtain ⟨d, cd, rc⟩ := hr ds H2 (e.trans e2) ca
    exact rc vs H2 (Ext.refl e2.j) hv Q fun v H3 e3 h3 => q v H3 d (e2.trans e3) cd h3
theorem ec_call {ι : Type} {Pre : Fr → Hp → ι → Prop} {A : ι → List D} {R : ι → D → Prop} (h : EvAC F t σ H CA) (hx : ∀ ds H1, Ext F H H1 → CA ds → ∃ x, ds = A x ∧ Pre F H1 x ∧ ∀ d, R x d → C d) : EvC F (tCall (SpC Pre A R) [] E0 t) σ H C := fun H1 e Q q =>
  h H1 e _ fun vs H2 ds e2 ca hv => by
    obtain ⟨x, ex, px, hc⟩ := hx ds H2 (e.trans e2) ca
    exact ⟨F, x, e2.j, by rw [List.append_nil, ← ex]; exact hv, px, fun v H3 d e3 c h3 => q v H3 d (e2.trans e3) (hc d c) h3⟩
theorem etp_test (h : EvC F te σ H C) (hC : ∀ d, C d → ∃ b, d = .bl b ∧ P b) : EvTP F (tTest te) σ H P := fun H1 e Q q => h H1 e _ fun v H2 d e2 c hv => by
  obtain ⟨b, rfl, pb⟩ := hC d c
  exact ⟨b, hv.bl_inv, q b H2 e2 pb⟩
theorem etp_and (h1 : EvT F tt σ H b) (h2 : b = true → EvTP F uu σ H P) : EvTP F (tAnd tt uu) σ H (fun c => c = true → b = true) := fun H1 e Q q => h1 H1 e _ fun H2 e2 => by
  cases b with
  | true => exact iteT (h2 rfl H2 (e.trans e2) Q fun c H3 e3 _ => q c H3 (e2.trans e3) fun _ => rfl)
  | false => exact iteF (q false H2 e2 fun z => z)
theorem ec_if (h : EvTP F tt σ H P) (h1 : P true → EvC F ta σ H C) (h2 : P false → EvC F tb σ H C) : EvC F (tIf tt ta tb) σ H C := fun H1 e Q q => h H1 e _ fun b H2 e2 p => by
  cases b with
  | true => exact iteT (h1 p H2 (e.trans e2) Q fun v H3 d e3 c h3 => q v H3 d (e2.trans e3) c h3)
  | false => exact iteF (h2 p H2 (e.trans e2) Q fun v H3 d e3 c h3 => q v H3 d (e2.trans e3) c h3)
theorem EvTP.use (h : EvTP F tt σ H P) (jj : F.J H) {Q : Bool → Hp → Prop} (q : ∀ b H2, Ext F H H2 → P b → Q b H2) : tt σ H Q := h H (Ext.refl jj) Q q
theorem s_ifP {D' : Ends} {tb tc : TS} (jj : F.J H) (h : EvTP F tt σ H P) (h1 : ∀ H2, Ext F H H2 → P true → tb D' σ H2) (h2 : ∀ H2, Ext F H H2 → P false → tc D' σ H2) : tIfS tt tb tc D' σ H := h.use jj fun b H2 e2 p => by
  cases b with
  | true => exact iteT (h1 H2 e2 p)
  | false => exact iteF (h2 H2 e2 p)
theorem s_ifPS {D' : Ends} {tb u : TS} (jj : F.J H) (h : EvTP F tt σ H P) (h1 : ∀ H2, Ext F H H2 → P true → tb ⟨u D', D'.rt, D'.bk, D'.ct⟩ σ H2) (h2 : ∀ H2, Ext F H H2 → P false → u D' σ H2) : tSeq (tIfS tt tb tNext) u D' σ H := s_ifP jj h h1 h2
theorem s_ifPN {D' : Ends} {tb : TS} (jj : F.J H) (h : EvTP F tt σ H P) (h1 : ∀ H2, Ext F H H2 → P true → tb D' σ H2) (h2 : ∀ H2, Ext F H H2 → P false → D'.nx σ H2) : tIfS tt tb tNext D' σ H := s_ifP jj h h1 h2
end
/-- an int from 0 below n -/
def Below (n : Int) (d : D) : Prop := ∃ r : Int, d = .int r ∧ 0 ≤ r ∧ r < n
def sp_w_draw : Sp := SpC (ι := Addr × Addr × Int) (fun F _ x => Drw F x.1 x.2.1 ∧ 0 < x.2.2 ∧ x.2.2 < 1073741824) (fun x => [.adr x.1, .int x.2.2]) fun x => Below x.2.2
/-- the promises of the defs that draw: the state, the other arguments -/
def SpD {ι : Type} (Pre : ι → Prop) (A : ι → List D) (C : ι → D → Prop) : Sp := SpC (ι := Addr × Addr × ι) (fun F _ x => Drw F x.1 x.2.1 ∧ Pre x.2.2) (fun x => .adr x.1 :: A x.2.2) fun x => C x.2.2
def isKey (d : D) : Prop := ∃ k, d = .str k ∧ k ∈ keys
def isCov (d : D) : Prop := ∃ c : Cov, d = kC c ∧ c.1 ∈ keys ∧ c.2 ∈ keys
def isQu (d : D) : Prop := ∃ q, d = kQ q ∧ q.ok
def isGr (d : D) : Prop := ∃ g, d = kG g ∧ GOk g ∧ g.length ≤ 3
def isPr (d : D) : Prop := ∃ p, d = kP p
def isRd (n : Int) (d : D) : Prop := ∃ rd : Rd, d = kRd rd ∧ QsOk rd.qs ∧ 1 ≤ rd.qs.length ∧ rd.qs.length ≤ 3 ∧ PySem.PyData.strOk rd.ses = true
def isSm (d : D) : Prop := ∃ s, d = kS s
def isEv (d : D) : Prop := ∃ ev, d = kSs ev ∧ ev.length ≤ 10
def sp_w_key : Sp := SpD (ι := Unit) (fun _ => True) (fun _ => []) fun _ => isKey
def sp_w_cover : Sp := SpD (ι := Unit) (fun _ => True) (fun _ => []) fun _ => isCov
def sp_w_question : Sp := SpD (ι := Unit) (fun _ => True) (fun _ => []) fun _ => isQu
def sp_w_group : Sp := SpD (ι := Unit) (fun _ => True) (fun _ => []) fun _ => isGr
def sp_w_promise : Sp := SpD (ι := Unit) (fun _ => True) (fun _ => []) fun _ => isPr
def sp_w_read : Sp := SpD (ι := Int) (fun _ => True) (fun n => [.int n]) fun n => isRd n
def LLOk (x : List Cm × List Ls × Int) : Prop := x.1.length ≤ 1000 ∧ x.2.1.length ≤ 1000 ∧ 0 ≤ x.2.2 ∧ x.2.2 ≤ 1000000
def sp_w_statement : Sp := SpD (ι := List Cm × List Ls × Int) LLOk (fun x => [kLg x.1, kLss x.2.1, .int x.2.2]) fun _ => isSm
def sp_w_evidence : Sp := SpD (ι := (List Cm × List Ls × Int) × Rd) (fun x => LLOk x.1 ∧ QsOk x.2.qs ∧ x.2.qs.length ≤ 3) (fun x => [kLg x.1.1, kLss x.1.2.1, .int x.1.2.2, kRd x.2]) fun _ => isEv
section
variable {F : Fr} {K : PySem.W.Frag} {σ : L2.St} {H H1 : Hp} {t : TA} {s a : Addr} {n : Int}
theorem ec_draw (dr : Drw F s a) (h : EvA F t σ H [.adr s, .int n]) (n0 : 0 < n) (n1 : n < 1073741824) : EvC F (tCall sp_w_draw [] E0 t) σ H (Below n) :=
  ev_callC (ι := Addr × Addr × Int) (s, a, n) h rfl (fun _ _ _ _ _ z => z) ⟨dr, n0, n1⟩
theorem ec_D {ι : Type} {Pre : ι → Prop} {A : ι → List D} {C : ι → D → Prop} (x : ι) (dr : Drw F s a) {ds : List D} (h : EvA F t σ H (.adr s :: ds)) (e : ds = A x) (o : Pre x) : EvC F (tCall (SpD Pre A C) [] E0 t) σ H (C x) :=
  ev_callC (ι := Addr × Addr × ι) (s, a, x) h (by rw [e]) (fun _ _ _ _ _ z => z) ⟨dr, o⟩
theorem ec_key (dr : Drw F s a) (h : EvA F t σ H [.adr s]) : EvC F (tCall sp_w_key [] E0 t) σ H isKey := ec_D (ι := Unit) () dr h rfl trivial
theorem ec_cover (dr : Drw F s a) (h : EvA F t σ H [.adr s]) : EvC F (tCall sp_w_cover [] E0 t) σ H isCov := ec_D (ι := Unit) () dr h rfl trivial
theorem ec_question (dr : Drw F s a) (h : EvA F t σ H [.adr s]) : EvC F (tCall sp_w_question [] E0 t) σ H isQu := ec_D (ι := Unit) () dr h rfl trivial
theorem ec_group (dr : Drw F s a) (h : EvA F t σ H [.adr s]) : EvC F (tCall sp_w_group [] E0 t) σ H isGr := ec_D (ι := Unit) () dr h rfl trivial
theorem ec_promise (dr : Drw F s a) (h : EvA F t σ H [.adr s]) : EvC F (tCall sp_w_promise [] E0 t) σ H isPr := ec_D (ι := Unit) () dr h rfl trivial
theorem ec_read (dr : Drw F s a) (h : EvA F t σ H [.adr s, .int n]) : EvC F (tCall sp_w_read [] E0 t) σ H (isRd n) := ec_D (ι := Int) n dr h rfl trivial
theorem ec_statement {l : List Cm} {ls : List Ls} {time : Int} (dr : Drw F s a) (h : EvA F t σ H [.adr s, kLg l, kLss ls, .int time]) (o : LLOk (l, ls, time)) : EvC F (tCall sp_w_statement [] E0 t) σ H isSm :=
  ec_D (ι := List Cm × List Ls × Int) (l, ls, time) dr h rfl o
theorem ec_evidence {l : List Cm} {ls : List Ls} {time : Int} {rd : Rd} (dr : Drw F s a) (h : EvA F t σ H [.adr s, kLg l, kLss ls, .int time, kRd rd]) (o : LLOk (l, ls, time) ∧ QsOk rd.qs ∧ rd.qs.length ≤ 3) : EvC F (tCall sp_w_evidence [] E0 t) σ H isEv :=
  ec_D (ι := (List Cm × List Ls × Int) × Rd) ((l, ls, time), rd) dr h rfl o
end
end Le

namespace Le
open PySem PySem.Spec PyProof.Rows L2
local macro_rules | `(tactic| wtm_at "ev1") => `(tactic| first
  | with_reducible exact ev_int | with_reducible exact ev_str | with_reducible exact ev_bl | with_reducible exact ev_non
  | with_reducible apply ev_var | with_reducible apply ev_op | with_reducible apply ev_chain
  | with_reducible apply ev_and | with_reducible apply ev_or | with_reducible apply ev_not
  | with_reducible apply et_and | with_reducible apply et_or | with_reducible apply et_not | with_reducible apply et_test | with_reducible apply et_B | with_reducible apply et_tru
  | with_reducible apply ev_if
  | with_reducible apply ev_tup | with_reducible apply ev_lst | with_reducible apply ea_cons | with_reducible exact ea_nil | with_reducible apply ev_cb
  | with_reducible exact rv_add | with_reducible exact rv_sub | with_reducible exact rv_lt | with_reducible exact rv_le | with_reducible exact rv_gt | with_reducible exact rv_ge
  | with_reducible exact rv_S | with_reducible exact rv_eqS | with_reducible exact rv_neS | with_reducible exact rv_eqI | with_reducible exact rv_neI | with_reducible exact rv_isN | with_reducible exact rv_notN | with_reducible exact rv_isB
  | with_reducible apply rv_ixT | with_reducible apply rv_ixL
  | with_reducible exact rc_lenL | with_reducible exact rc_lenT | with_reducible exact rc_list | with_reducible exact rc_tuple | with_reducible exact rc_intI | with_reducible exact rc_intB | with_reducible exact rc_min | with_reducible exact rc_max
  | wtm_at "evc"
  | (with_reducible apply dv_id; assumption) | (with_reducible apply dv_mono; assumption) | with_reducible apply dv_pin
  | (with_reducible intro _) | (with_reducible apply at_id; assumption) | exact rfl | (with_reducible apply le_id; exact Nat.le_of_ble_eq_true rfl))
local macro_rules | `(tactic| wtm_at "ev") => `(tactic| repeat' (wtm_at "ev1"))
local macro_rules | `(tactic| wtm_at "jj") => `(tactic| first | assumption | exact Ext.j (by assumption))
local macro_rules | `(tactic| wtm_at "evc") => `(tactic| first | with_reducible apply ev_contains | with_reducible apply ev_includes | with_reducible apply ev_touches | with_reducible apply ev_cover_of | with_reducible apply ev_w_cover_of | with_reducible apply ev_w_within | with_reducible apply ev_w_touches | with_reducible apply ev_least_record | with_reducible apply ev_selected | with_reducible apply ev_w_rows | with_reducible apply ev_ask | with_reducible apply ev_w_ask | with_reducible apply ev_apply | with_reducible apply ev_at | with_reducible apply ev_w_at | with_reducible apply ev_results | with_reducible apply ev_w_results | with_reducible apply ev_is_answer_at | with_reducible apply ev_is_true_at | with_reducible apply ev_is_true | with_reducible apply ev_w_is_true | with_reducible apply ev_supports_newest | with_reducible apply ev_supports | with_reducible apply ev_w_supports | with_reducible apply ev_accepts | with_reducible apply ev_w_accepts | with_reducible apply ev_w_is_right | with_reducible apply ev_w_reach | with_reducible apply ev_w_mix | with_reducible apply ev_w_number | with_reducible apply ev_w_is_integer | with_reducible apply ev_w_tells)
section
variable {F : Fr} {K : PySem.W.Frag} {σ : L2.St} {H H1 : Hp} {te ti tl : TE} {t : TT} {C : D → Prop} {D' : Ends} {tb u : TS} {b : Bool} {d : D} {ds : List D} {j : Nat} {p : Addr} {xs : List V} {o : HO}
theorem ev_val {v : V} (h : Dv F H v d) : Ev F (tC v) σ H d := fun H1 e Q q => q v H1 (Ext.refl e.j) (h.mono e)
/-- a pinned object is one that the frame does not change -/
theorem Ext.pinF (j : (F.pin p o).J H) (e : Ext (F.pin p o) H H1) : Ext F H H1 := ⟨e.j.1, fun a x s h => by
  by_cases q : a = p
  · subst q
    rw [j.2.2.1] at h
    cases h
    exact e.at_
  · exact e.k a x (fun z => z.elim s q) h, e.t⟩
theorem Ext.toPin (j : (F.pin p o).J H) (e : Ext F H H1) : Ext (F.pin p o) H H1 := ⟨⟨e.j, j.2.1, e.k p o (fun s => j.2.1 (F.sub s)) j.2.2.1, j.2.2.2⟩, fun a x s h => e.k a x (fun z => s (Or.inl z)) h, e.t⟩
/-- an item is set: the list's address in a name -/
theorem s_item {i : Int} {n : Nat} (jj : F.J H) (h : EvC F te σ H C) (hx : σ[j]? = some (some (.ref p))) (hp : ∀ H2, Ext F H H2 → H2 p = some (.lst xs)) (hi : ixN xs.length i = some n)
    (k : ∀ v H2 d, Ext F H H2 → C d → Dv F H2 v d → D'.nx σ (upd H2 p (.lst (xs.set n v)))) : tAsg te (gSub (tVar j) (tC (.int i)) rSetL) D' σ H := h.use jj fun v H2 d e2 c hv => ⟨_, hx, p, xs, i, n, rfl, rfl, hp H2 e2, hi, k v H2 d e2 c hv⟩
theorem s_itemS {i : Int} {n : Nat} (jj : F.J H) (h : EvC F te σ H C) (hx : σ[j]? = some (some (.ref p))) (hp : ∀ H2, Ext F H H2 → H2 p = some (.lst xs)) (hi : ixN xs.length i = some n)
    (k : ∀ v H2 d, Ext F H H2 → C d → Dv F H2 v d → u D' σ (upd H2 p (.lst (xs.set n v)))) : tSeq (tAsg te (gSub (tVar j) (tC (.int i)) rSetL)) u D' σ H := s_item jj h hx hp hi k
/-- if, the rest shown once -/
theorem s_ifG {G : Hp → Prop} (jj : F.J H) (h : EvT F t σ H b) (tail : ∀ H2, G H2 → u D' σ H2) (h1 : (∀ H2, G H2 → u D' σ H2) → b = true → ∀ H2, Ext F H H2 → tb ⟨u D', D'.rt, D'.bk, D'.ct⟩ σ H2) (h2 : b = false → ∀ H2, Ext F H H2 → G H2) : tSeq (tIfS t tb tNext) u D' σ H :=
  s_ifS jj h (h1 tail) fun hb H2 e2 => tail H2 (h2 hb H2 e2)
/-- over a list that is some answer -/
theorem s_forC {g : TG} (jj : F.J H) (h : EvC F tl σ H C) (hC : ∀ d, C d → ∃ ds, d = .lst ds) (k : ∀ ds v H2, Ext F H H2 → C (.lst ds) → Dv F H2 v (.lst ds) → tSeq (tFor (iList K (tC v)) g tb) u D' σ H2) : tSeq (tFor (iList K tl) g tb) u D' σ H := h.use jj fun v H2 d e2 c hv => by
  obtain ⟨ds, rfl⟩ := hC d c
  exact k ds v H2 e2 c hv
theorem rv_ixS {z : Str} {i : Int} {c} (hz : z.length ≤ 100000) (ha : atI z.cps.toList i = some c) : RV F rIxS (.str z) (.int i) H (.str ⟨#[c]⟩) := fun x y H1 e hx hy Q q => by
  cases hx.str_inv
  cases hy.int_inv
  exact ⟨z, i, c, rfl, rfl, sz_of hz, ha, q _ H1 (Ext.refl e.j) (.str _)⟩
theorem rv_addS {x y : Str} (hz : x.length + y.length ≤ 100000) : RV F (fun x y H Q => ∃ i j, x = .str i ∧ y = .str j ∧ i.length + j.length ≤ sizeLine ∧ Q (.str (i ++ j)) H) (.str x) (.str y) H (.str (x ++ y)) := fun v w H1 e hx hy Q q => by
  cases hx.str_inv
  cases hy.str_inv
  exact ⟨x, y, rfl, rfl, sz_of hz, q _ H1 (Ext.refl e.j) (.str _)⟩
/-- one of a written list -/
theorem ec_pick {n : Int} (h : EvC F te σ H (fun d => ∃ ds, d = .lst ds ∧ (ds.length : Int) = n ∧ ∀ x, x ∈ ds → C x)) (hd : EvC F ti σ H (Below n)) : EvC F (tOp (rIxL K) te ti) σ H C := ec_op h hd fun d1 d2 H1 e c1 c2 => by
  obtain ⟨ds, rfl, hl, hall⟩ := c1
  obtain ⟨r, rfl, r0, r1⟩ := c2
  obtain ⟨c, hc⟩ := some_at (l := ds) r0 (by omega)
  have e2 : r = ((r.toNat : Nat) : Int) := by omega
  have hat := atI_nat hc
  rw [← e2] at hat
  exact ⟨c, hall c (List.mem_of_getElem? hc), rv_ixL hat⟩
theorem ec_lit {n : Int} (h : Ev F te σ H (.lst ds)) (hn : (ds.length : Int) = n) (hall : ∀ x, x ∈ ds → C x) : EvC F te σ H (fun d => ∃ ds, d = .lst ds ∧ (ds.length : Int) = n ∧ ∀ x, x ∈ ds → C x) := h.toC ⟨ds, rfl, hn, hall⟩
/-- sorted of texts -/
theorem ec_sorted {Pk : List Str → Prop} (h : EvC F te σ H (fun d => ∃ ks : List Str, d = .lst (ks.map D.str) ∧ Pk ks)) (hl : ∀ ks, Pk ks → ks.length < 64) :
    EvC F (tCB (rSortedS K) (tCons te tNil)) σ H (fun d => ∃ ks ks' : List Str, d = .lst (ks.map D.str) ∧ ks.Perm ks' ∧ Pk ks') := fun H1 e Q q => h H1 e _ fun v H2 d e2 c hv => by
  obtain ⟨ks', rfl, pk⟩ := c
  obtain ⟨a, xs, rfl, s, ha, hd⟩ := hv.lst_inv
  have ex : xs = ks'.map V.str := strs_of hd
  refine ⟨a, ks', rfl, SqL.of (by rw [ha, ex]), hl ks' pk, fun ys p2 hperm hs hp2 => ?_⟩
  exact q _ _ (.lst (ys.map D.str)) (e2.new hp2) ⟨ys, ks', rfl, hperm, pk⟩ (.lst (e2.fresh hp2) upd_same (dva_str ys))
where
  strs_of {F : Fr} {H : Hp} : ∀ {ys : List V} {ns : List Str}, DvA F H ys (ns.map D.str) → ys = ns.map V.str
    | [], [], _ => rfl
    | [], _ :: _, h => by cases h
    | _ :: _, [], h => by cases h
    | y :: ys, n :: ns, .cons a b => by
      rw [a.str_inv, strs_of b]
      rfl
  dva_str {F : Fr} {H : Hp} : ∀ ys : List Str, DvA F H (ys.map V.str) (ys.map D.str)
    | [] => .nil
    | y :: ys => .cons (.str y) (dva_str ys)
/-- ints -/
def isInt (d : D) : Prop := ∃ i : Int, d = .int i
theorem ec_sub {C1 C2 : D → Prop} (ha : EvC F te σ H C1) (hb : EvC F ti σ H C2) (h1 : ∀ d, C1 d → isInt d) (h2 : ∀ d, C2 d → isInt d) (hC : ∀ i k, C1 (.int i) → C2 (.int k) → C (.int (i - k))) : EvC F (tOp (rI0 fun i j => .int (i - j)) te ti) σ H C := ec_op ha hb fun d1 d2 H1 e c1 c2 => by
  obtain ⟨i, rfl⟩ := h1 d1 c1
  obtain ⟨k, rfl⟩ := h2 d2 c2
  exact ⟨_, hC i k c1 c2, rv_sub⟩
theorem ec_add {C1 C2 : D → Prop} (ha : EvC F te σ H C1) (hb : EvC F ti σ H C2) (h1 : ∀ d, C1 d → isInt d) (h2 : ∀ d, C2 d → isInt d) (hC : ∀ i k, C1 (.int i) → C2 (.int k) → C (.int (i + k))) : EvC F (tOp (rI0 fun i j => .int (i + j)) te ti) σ H C := ec_op ha hb fun d1 d2 H1 e c1 c2 => by
  obtain ⟨i, rfl⟩ := h1 d1 c1
  obtain ⟨k, rfl⟩ := h2 d2 c2
  exact ⟨_, hC i k c1 c2, rv_add⟩
theorem below_int {n : Int} (d : D) (h : Below n d) : isInt d := by
  obtain ⟨r, rfl, _⟩ := h
  exact ⟨r, rfl⟩
theorem eq_int {i : Int} (d : D) (h : d = .int i) : isInt d := ⟨i, h⟩
def isBool (d : D) : Prop := ∃ b : Bool, d = .bl b
/-- draw(n) == i | > i -/
theorem ec_eqI {C1 : D → Prop} {i : Int} (ha : EvC F te σ H C1) (h1 : ∀ d, C1 d → isInt d) : EvC F (tOp rEq te (tC (.int i))) σ H isBool := ec_op ha (ev_int (i := i)).toC1 fun d1 d2 H1 e c1 c2 => by
  subst c2
  obtain ⟨k, rfl⟩ := h1 d1 c1
  exact ⟨_, ⟨_, rfl⟩, rv_eqI⟩
theorem ec_gtI {C1 : D → Prop} {i : Int} (ha : EvC F te σ H C1) (h1 : ∀ d, C1 d → isInt d) : EvC F (tOp (rI0 fun i j => .bl (decide (j < i))) te (tC (.int i))) σ H isBool := ec_op ha (ev_int (i := i)).toC1 fun d1 d2 H1 e c1 c2 => by
  subst c2
  obtain ⟨k, rfl⟩ := h1 d1 c1
  exact ⟨_, ⟨_, rfl⟩, rv_gt⟩
theorem etp_bool (h : EvC F te σ H isBool) : EvTP F (tTest te) σ H (fun _ => True) := etp_test h fun d ⟨b, e⟩ => ⟨b, e, trivial⟩
theorem ec_intB (h : EvC F te σ H isBool) : EvC F (tCB rInt1 (tCons te tNil)) σ H isInt := ec_cb (eac_cons h eac_nil) fun ds H1 e ca => by
  obtain ⟨d, r, rfl, ⟨b, rfl⟩, rfl⟩ := ca
  exact ⟨_, ⟨_, rfl⟩, rc_intB⟩
theorem map_of {α : Type} {enc : α → D} {P : α → Prop} : ∀ {ds : List D}, (∀ z, z ∈ ds → ∃ x, z = enc x ∧ P x) → ∃ xs : List α, ds = xs.map enc ∧ ∀ x, x ∈ xs → P x
  | [], _ => ⟨[], rfl, fun x h => by cases h⟩
  | d :: ds, h => by
    obtain ⟨x, rfl, px⟩ := h d (List.mem_cons.mpr (Or.inl rfl))
    obtain ⟨xs, rfl, pxs⟩ := map_of fun z hz => h z (List.mem_cons.mpr (Or.inr hz))
    refine ⟨x :: xs, rfl, fun y hy => ?_⟩
    rcases List.mem_cons.mp hy with rfl | hy
    · exact px
    · exact pxs y hy
end
def sp_w_state (K : PySem.W.Frag) : Sp := fun vs H Q _ => ∃ (a : Addr) (ns : List Int), vs = [.ref a] ∧ SqL K H a (ns.map V.int) ∧ ns.length ≤ 63 ∧ ∀ s b H', Same H H' → StAt H' s b → Q (.ref s) H'
section
variable {P : Program} {w : World} {K : PySem.W.Frag} {mg : Str → Option Value} {base : Heap}
theorem sc_w_state : FnScope ["_law_script"] ["_law_script"] d_w_state.scope := ⟨rfl, rfl, rfl, by decide +kernel, rfl, by decide +kernel, by decide +kernel⟩
theorem g_w_state (T : Tx K mg)  : Good P w K mg base 1 "_law_state" ["_law_script"] (sp_w_state K) := by
  refine good_def (D_w_state T.c) (T.glo _ (F_g_w_state T.c)) (fun _ _ _ _ _ _ us hl => match us, hl with | [_], _ => rfl) sc_w_state (fun vs H Q E ⟨a, ns, h, _⟩ => by rw [h]; rfl) ⟨_, fun f cdv A outer s H E hr =>
    (pss_one (ps_ret (pe_lst (pa_cons pe_int (pa_cons (pe_callTy (k_list (K := K) rfl) (by rfl) (T.free _ (F_b_list T.c)) (by decide +kernel) (pa_cons (pv 0) pa_nil)) (pa_cons pe_int (pa_cons (pe_op op_add pe_int (pe_callB (k_len (K := K) rfl) (by rfl) (T.free _ (F_b_len T.c)) (by decide +kernel) (pa_cons (pv 0) pa_nil))) pa_nil))))))), ?_⟩
  rintro vs H Q E ⟨a, ns, rfl, hS, hl, kk⟩
  refine ⟨_, rfl, a, _, rfl, Or.inl hS, fun b hb => ?_⟩
  refine ⟨_, rfl, a, _, rfl, Or.inl ((L2.Same.seq (same_new hb) hS)), ?_⟩
  refine ⟨_, _, rfl, rfl, by show 4 ≤ sizeLine; decide, fun s hs => ?_⟩
  have nb : s ≠ b := fun e => by rw [e, upd_same] at hs; cases hs
  refine kk s b _ ?_ ⟨⟨0, 0, _, Int.le_refl _, upd_same⟩, ns, ?_, hl⟩
  · exact L2.Same.trans (same_new hb) (same_new hs)
  · rw [upd_ne fun e => nb e.symm, upd_same]
end
end Le

namespace Le
open PySem PySem.Spec PyProof.Rows L2
local macro_rules | `(tactic| wtm_at "ev1") => `(tactic| first
  | with_reducible exact ev_int | with_reducible exact ev_str | with_reducible exact ev_bl | with_reducible exact ev_non
  | with_reducible apply ev_var | with_reducible apply ev_op | with_reducible apply ev_chain
  | with_reducible apply ev_and | with_reducible apply ev_or | with_reducible apply ev_not
  | with_reducible apply et_and | with_reducible apply et_or | with_reducible apply et_not | with_reducible apply et_test | with_reducible apply et_B | with_reducible apply et_tru
  | with_reducible apply ev_if
  | with_reducible apply ev_tup | with_reducible apply ev_lst | with_reducible apply ea_cons | with_reducible exact ea_nil | with_reducible apply ev_cb
  | with_reducible exact rv_add | with_reducible exact rv_sub | with_reducible exact rv_lt | with_reducible exact rv_le | with_reducible exact rv_gt | with_reducible exact rv_ge
  | with_reducible exact rv_S | with_reducible exact rv_eqS | with_reducible exact rv_neS | with_reducible exact rv_eqI | with_reducible exact rv_neI | with_reducible exact rv_isN | with_reducible exact rv_notN | with_reducible exact rv_isB
  | with_reducible apply rv_ixT | with_reducible apply rv_ixL
  | with_reducible exact rc_lenL | with_reducible exact rc_lenT | with_reducible exact rc_list | with_reducible exact rc_tuple | with_reducible exact rc_intI | with_reducible exact rc_intB | with_reducible exact rc_min | with_reducible exact rc_max
  | wtm_at "evc"
  | (with_reducible apply dv_id; assumption) | (with_reducible apply dv_mono; assumption) | with_reducible apply dv_pin
  | (with_reducible intro _) | (with_reducible apply at_id; assumption) | exact rfl | (with_reducible apply le_id; exact Nat.le_of_ble_eq_true rfl))
local macro_rules | `(tactic| wtm_at "ev") => `(tactic| repeat' (wtm_at "ev1"))
local macro_rules | `(tactic| wtm_at "jj") => `(tactic| first | assumption | exact Ext.j (by assumption))
local macro_rules | `(tactic| wtm_at "evc") => `(tactic| first | with_reducible apply ev_contains | with_reducible apply ev_includes | with_reducible apply ev_touches | with_reducible apply ev_cover_of | with_reducible apply ev_w_cover_of | with_reducible apply ev_w_within | with_reducible apply ev_w_touches | with_reducible apply ev_least_record | with_reducible apply ev_selected | with_reducible apply ev_w_rows | with_reducible apply ev_ask | with_reducible apply ev_w_ask | with_reducible apply ev_apply | with_reducible apply ev_at | with_reducible apply ev_w_at | with_reducible apply ev_results | with_reducible apply ev_w_results | with_reducible apply ev_is_answer_at | with_reducible apply ev_is_true_at | with_reducible apply ev_is_true | with_reducible apply ev_w_is_true | with_reducible apply ev_supports_newest | with_reducible apply ev_supports | with_reducible apply ev_w_supports | with_reducible apply ev_accepts | with_reducible apply ev_w_accepts | with_reducible apply ev_w_is_right | with_reducible apply ev_w_reach | with_reducible apply ev_w_mix | with_reducible apply ev_w_number | with_reducible apply ev_w_is_integer | with_reducible apply ev_w_tells)
/-- the state as data -/
abbrev stD (v : Int) (ns : List Int) (p q : Int) : D := .lst [.int v, .lst (ns.map D.int), .int p, .int q]
theorem dva_ints {F : Fr} {H : Hp} : ∀ ns : List Int, DvA F H (ns.map V.int) (ns.map D.int)
  | [] => .nil
  | n :: ns => .cons (.int n) (dva_ints ns)
theorem dv_st {H : Hp} {s a : Addr} {v p q : Int} {ns : List Int} (hs : H s = some (.lst [.int v, .ref a, .int p, .int q])) (ha : H a = some (.lst (ns.map V.int))) : Dv F0 H (.ref s) (stD v ns p q) :=
  .lst (fun z => z) hs (.cons (.int _) (.cons (.lst (fun z => z) ha (dva_ints ns)) (.cons (.int _) (.cons (.int _) .nil))))
theorem ix0 {a b c d : V} : ixN [a, b, c, d].length (0 : Int) = some 0 := rfl
theorem ix2 {a b c d : V} : ixN [a, b, c, d].length (2 : Int) = some 2 := rfl
theorem ix3 {a b c d : V} : ixN [a, b, c, d].length (3 : Int) = some 3 := rfl
theorem at0 {a b c d : D} : atI [a, b, c, d] (0 : Int) = some a := rfl
theorem at1 {a b c d : D} : atI [a, b, c, d] (1 : Int) = some b := rfl
theorem at2 {a b c d : D} : atI [a, b, c, d] (2 : Int) = some c := rfl
theorem at3 {a b c d : D} : atI [a, b, c, d] (3 : Int) = some d := rfl
/-- the state is changed -/
theorem Drw.upd {F : Fr} {s a : Addr} {H H1 : Hp} (dr : Drw F s a) (e : Ext F H H1) {v p q : Int} (hp : 0 ≤ p) : Ext F H (L2.upd H1 s (.lst [.int v, .ref a, .int p, .int q])) :=
  ⟨dr.put _ _ _ _ e.j hp, fun x o hs h => by
    rw [upd_ne fun z => hs (by rw [z]; exact dr.ss)]
    exact e.k x o hs h, fun x xs h => by
    have z := e.t x xs h
    obtain ⟨⟨_, _, _, _, hs⟩, _⟩ := dr.j _ e.j
    rw [upd_ne fun y => by rw [y, hs] at z; cases z]
    exact z⟩
section
variable {P : Program} {w : World} {K : PySem.W.Frag} {mg : Str → Option Value} {base : Heap}
theorem sc_w_draw : FnScope ["_law_state_here", "_law_many", "_law_value"] ["_law_state_here", "_law_many"] d_w_draw.scope := ⟨rfl, rfl, rfl, by decide +kernel, rfl, by decide +kernel, by decide +kernel⟩
theorem g_w_draw (T : Tx K mg) (G_w_number : Good P w K mg base 2 "_law_number" ["_law_cell"] sp_w_number) : Good P w K mg base 3 "_law_draw" ["_law_state_here", "_law_many"] sp_w_draw := by
  refine good_def (D_w_draw T.c) (T.glo _ (F_g_w_draw T.c)) (fun _ _ _ _ _ _ us hl => match us, hl with | [_, _], _ => rfl) sc_w_draw (len_C fun _ => rfl) ⟨_, fun f cdv A outer s H E hr =>
    (pss_cons (ps_if (PW.pt (pw_and (pt_cmpR op_lt (pe_ix (k_ix_list (K := K) rfl) (pv 0) pe_int (fun _ _ => rfl)) (pv 1) (nomark _)) (pw_and1 (pt_cmpR op_lt (pe_ix (k_ix_list (K := K) rfl) (pv 0) pe_int (fun _ _ => rfl)) (pe_callB (k_len (K := K) rfl) (by rfl) (T.free _ (F_b_len T.c)) (by decide +kernel) (pa_cons (pe_ix (k_ix_list (K := K) rfl) (pv 0) pe_int (fun _ _ => rfl)) pa_nil)) (nomark _))))) (pss_cons (ps_asg (pe_cG G_w_number hr rfl (pa_cons (pe_ix (k_ix_list (K := K) rfl) (pe_ix (k_ix_list (K := K) rfl) (pv 0) pe_int (fun _ _ => rfl)) (pe_ix (k_ix_list (K := K) rfl) (pv 0) pe_int (fun _ _ => rfl)) (fun _ _ => rfl)) pa_nil)) (pg_sub (pv 0) pe_int set_list))
      (pss_one (ps_asg (pe_op op_add (pe_ix (k_ix_list (K := K) rfl) (pv 0) pe_int (fun _ _ => rfl)) pe_int) (pg_sub (pv 0) pe_int set_list)))) pss_nil)
      (pss_cons (ps_if (pt_cmpR op_eq (pe_ix (k_ix_list (K := K) rfl) (pv 0) pe_int (fun _ _ => rfl)) pe_int (nomark _)) (pss_cons (ps_asg (pe_op op_mod (pe_callTy call_int' (by rfl) (T.free _ (F_b_int T.c)) (by decide +kernel) (pa_cons (pe_op op_add (pe_op op_mul (pe_ix (k_ix_list (K := K) rfl) (pv 0) pe_int (fun _ _ => rfl)) pe_int) pe_int) pa_nil)) pe_int) (pg_sub (pv 0) pe_int set_list))
      (pss_one (ps_ret (pe_op op_mod (pe_callTy call_int' (by rfl) (T.free _ (F_b_int T.c)) (by decide +kernel) (pa_cons (pe_op op_fdiv (pe_ix (k_ix_list (K := K) rfl) (pv 0) pe_int (fun _ _ => rfl)) pe_int) pa_nil)) (pv 1))))) pss_nil)
      (pss_cons (ps_set (i := 2) sc_w_draw.nd rfl (Or.inl rfl) (pe_op op_mod (pe_callTy call_int' (by rfl) (T.free _ (F_b_int T.c)) (by decide +kernel) (pa_cons (pe_ix (k_ix_list (K := K) rfl) (pv 0) pe_int (fun _ _ => rfl)) pa_nil)) (pv 1)))
      (pss_cons (ps_asg (pe_op op_fdiv (pe_ix (k_ix_list (K := K) rfl) (pv 0) pe_int (fun _ _ => rfl)) (pv 1)) (pg_sub (pv 0) pe_int set_list))
      (pss_one (ps_ret (pv 2))))))), ?_⟩
  rintro vs H Q E ⟨F, ⟨s, a, n⟩, j, hv, ⟨dr, n0, n1⟩, kk⟩
  obtain ⟨v1, v2, rfl, h1, h2⟩ := hv.two
  cases h1.adr_inv
  cases h2.int_inv
  have n0' : 0 < n := n0
  have n1' : n < 1073741824 := n1
  obtain ⟨⟨v, p, q, hp, hs⟩, ns, ha, hl⟩ := dr.j H j
  have d0 : Dv F0 H (.ref s) (stD v ns p q) := dv_st hs ha
  have d1 : Dv F0 H (.int n) (.int n) := .int n
  apply s_ifG (F := F0) (G := fun H2 => Ext F H H2) (b := decide (v < n) && decide (p < (ns.length : Nat))) trivial
  · apply et_and
    · apply et_test
      refine ev_op (ev_op (ev_var rfl d0) ev_int (rv_ixL at0)) (ev_var rfl d1) rv_lt
    · intro _
      apply et_test
      refine ev_op (ev_op (ev_var rfl d0) ev_int (rv_ixL at2)) (ev_cb (ea_cons (ev_op (ev_var rfl d0) ev_int (rv_ixL at1)) ea_nil) ?_) rv_lt
      rw [← len_map D.int ns]
      exact rc_lenL
  · intro H2 e2
    obtain ⟨⟨v, p, q, hp, hs⟩, ns, ha, hl⟩ := dr.j H2 e2.j
    have d0 : Dv F0 H2 (.ref s) (stD v ns p q) := dv_st hs ha
    have d1 : Dv F0 H2 (.int n) (.int n) := .int n
    apply s_ifS (F := F0) (b := decide (v = 0)) trivial
    · apply et_test
      exact ev_op (ev_op (ev_var rfl d0) ev_int (rv_ixL at0)) ev_int rv_eqI
    · intro _ H3 e3
      have b1 : 0 ≤ (q * 48271 + 7) % 2147483647 ∧ (q * 48271 + 7) % 2147483647 < 2147483647 := ⟨Int.emod_nonneg _ (by decide), Int.emod_lt_of_pos _ (by decide)⟩
      have d3 := d0.mono e3
      have hs3 := e3.of0 _ _ hs
      have ha3 := e3.of0 _ _ ha
      apply s_itemS (F := F0) (C := fun x => x = .int ((q * 48271 + 7) % 2147483647)) (p := s) (xs := [.int v, .ref a, .int p, .int q]) (n := 3) trivial
      · refine Ev.toC1 (ev_op (ev_cb (ea_cons (ev_op (d1 := .int (q * 48271)) (ev_op (ev_op (ev_var rfl d3) ev_int (rv_ixL at3)) ev_int (rv_I (Or.inr ⟨by decide, by decide⟩) fun _ => .int _)) ev_int rv_add) ea_nil) rc_intI) ev_int (rv_I (show (0 : Int) < 2147483647 by decide) fun _ => .int _))
      · rfl
      · exact fun H4 e4 => e4.of0 _ _ hs3
      · exact ix3
      · rintro v4 H4 d4 e4 rfl h4
        cases h4.int_inv
        have e34 : Ext F H H4 := (e2.same e3.of0).same e4.of0
        have e5 := dr.upd e34 (v := v) (p := p) (q := (q * 48271 + 7) % 2147483647) hp
        have hs5 : upd H4 s (.lst [.int v, .ref a, .int p, .int ((q * 48271 + 7) % 2147483647)]) s = some (.lst [.int v, .ref a, .int p, .int ((q * 48271 + 7) % 2147483647)]) := upd_same
        have ha5 : upd H4 s (.lst [.int v, .ref a, .int p, .int ((q * 48271 + 7) % 2147483647)]) a = some (.lst (ns.map V.int)) := by
          rw [upd_ne (StAt.ne ⟨⟨v, p, q, hp, hs⟩, ns, ha, hl⟩)]
          exact e4.of0 _ _ ha3
        have d5 := dv_st hs5 ha5
        apply s_ret (F := F0) (d := .int ((q * 48271 + 7) % 2147483647 / 11 % n)) trivial
        · refine ev_op (ev_cb (ea_cons (ev_op (ev_op (ev_var rfl d5) ev_int (rv_ixL at3)) ev_int (rv_I (show CDiv _ 11 from ⟨by decide, by decide⟩) fun _ => .int _)) ea_nil) rc_intI) (ev_var (d := .int n) rfl (.int n)) (rv_I n0' fun _ => .int _)
        · intro v6 H6 e6 h6
          cases h6.int_inv
          refine kk _ H6 (.int _) (e5.same e6.of0) ⟨_, rfl, Int.emod_nonneg _ (by omega), Int.emod_lt_of_pos _ n0'⟩ (.int _)
    · intro _ H3 e3
      have d3 := d0.mono e3
      have hs3 := e3.of0 _ _ hs
      have ha3 := e3.of0 _ _ ha
      apply s_setS (F := F0) (d := .int (v % n)) trivial
      · exact ev_op (ev_cb (ea_cons (ev_op (ev_var rfl d3) ev_int (rv_ixL at0)) ea_nil) rc_intI) (ev_var (d := .int n) rfl (.int n)) (rv_I n0' fun _ => .int _)
      intro v4 H4 e4 h4
      cases h4.int_inv
      have d4 := d3.mono e4
      apply s_itemS (F := F0) (C := fun x => x = .int (v / n)) (p := s) (xs := [.int v, .ref a, .int p, .int q]) (n := 0) trivial
      · exact Ev.toC1 (ev_op (ev_op (ev_var rfl d4) ev_int (rv_ixL at0)) (ev_var (d := .int n) rfl (.int n)) (rv_I (show CDiv v n from ⟨n0', n1'⟩) fun _ => .int _))
      · rfl
      · exact fun H5 e5 => e5.of0 _ _ (e4.of0 _ _ hs3)
      · exact ix0
      · rintro v5 H5 d5 e5 rfl h5
        cases h5.int_inv
        have e35 : Ext F H H5 := ((e2.same e3.of0).same e4.of0).same e5.of0
        have e6 := dr.upd e35 (v := v / n) (p := p) (q := q) hp
        apply s_ret (F := F0) (d := .int (v % n)) trivial
        · exact ev_var rfl (.int _)
        · intro v7 H7 e7 h7
          cases h7.int_inv
          exact kk _ H7 (.int _) (e6.same e7.of0) ⟨_, rfl, Int.emod_nonneg _ (by omega), Int.emod_lt_of_pos _ n0'⟩ (.int _)
  · intro tail hb H2 e2
    have hlt : p < (ns.length : Nat) := of_decide_eq_true (Bool.and_eq_true_iff.mp hb).2
    obtain ⟨c, hc⟩ := some_at (l := ns) hp hlt
    have d2 := d0.mono e2
    have hs2 := e2.of0 _ _ hs
    have ha2 := e2.of0 _ _ ha
    apply s_itemS (F := F0) (C := fun x => x = .int (numF c)) (p := s) (xs := [.int v, .ref a, .int p, .int q]) (n := 0) trivial
    · exact Ev.toC1 (ev_w_number (ea_cons (ev_op (ev_op (ev_var rfl d2) ev_int (rv_ixL at1)) (ev_op (ev_var rfl d2) ev_int (rv_ixL at2)) (rv_ixL (atI_map hp hc))) ea_nil))
    · rfl
    · exact fun H3 e3 => e3.of0 _ _ hs2
    · exact ix0
    · rintro v3 H3 d3 e3 rfl h3
      cases h3.int_inv
      have e23 : Ext F H H3 := (Ext.ofSame j e2.of0).same e3.of0
      have e4 := dr.upd e23 (v := numF c) (p := p) (q := q) hp
      have hs4 : upd H3 s (.lst [.int (numF c), .ref a, .int p, .int q]) s = some (.lst [.int (numF c), .ref a, .int p, .int q]) := upd_same
      have ha4 : upd H3 s (.lst [.int (numF c), .ref a, .int p, .int q]) a = some (.lst (ns.map V.int)) := by
        rw [upd_ne (StAt.ne ⟨⟨v, p, q, hp, hs⟩, ns, ha, hl⟩)]
        exact e3.of0 _ _ ha2
      have d4 := dv_st hs4 ha4
      apply s_item (F := F0) (C := fun x => x = .int (p + 1)) (p := s) (xs := [.int (numF c), .ref a, .int p, .int q]) (n := 2) trivial
      · exact Ev.toC1 (ev_op (ev_op (ev_var rfl d4) ev_int (rv_ixL at2)) ev_int rv_add)
      · rfl
      · exact fun H5 e5 => e5.of0 _ _ hs4
      · exact ix2
      · rintro v5 H5 d5 e5 rfl h5
        cases h5.int_inv
        exact tail _ (dr.upd (e4.same e5.of0) (v := numF c) (p := p + 1) (q := q) (by omega))
  · intro hb H2 e2
    exact Ext.ofSame j e2.of0
end
end Le

namespace Le
open PySem PySem.Spec PyProof.Rows L2
local macro_rules | `(tactic| wtm_at "ev1") => `(tactic| first
  | with_reducible exact ev_int | with_reducible exact ev_str | with_reducible exact ev_bl | with_reducible exact ev_non
  | with_reducible apply ev_var | with_reducible apply ev_op | with_reducible apply ev_chain
  | with_reducible apply ev_and | with_reducible apply ev_or | with_reducible apply ev_not
  | with_reducible apply et_and | with_reducible apply et_or | with_reducible apply et_not | with_reducible apply et_test | with_reducible apply et_B | with_reducible apply et_tru
  | with_reducible apply ev_if
  | with_reducible apply ev_tup | with_reducible apply ev_lst | with_reducible apply ea_cons | with_reducible exact ea_nil | with_reducible apply ev_cb
  | with_reducible exact rv_add | with_reducible exact rv_sub | with_reducible exact rv_lt | with_reducible exact rv_le | with_reducible exact rv_gt | with_reducible exact rv_ge
  | with_reducible exact rv_S | with_reducible exact rv_eqS | with_reducible exact rv_neS | with_reducible exact rv_eqI | with_reducible exact rv_neI | with_reducible exact rv_isN | with_reducible exact rv_notN | with_reducible exact rv_isB
  | with_reducible apply rv_ixT | with_reducible apply rv_ixL
  | with_reducible exact rc_lenL | with_reducible exact rc_lenT | with_reducible exact rc_list | with_reducible exact rc_tuple | with_reducible exact rc_intI | with_reducible exact rc_intB | with_reducible exact rc_min | with_reducible exact rc_max
  | wtm_at "evc"
  | (with_reducible apply dv_id; assumption) | (with_reducible apply dv_mono; assumption) | with_reducible apply dv_pin
  | (with_reducible intro _) | (with_reducible apply at_id; assumption) | exact rfl | (with_reducible apply le_id; exact Nat.le_of_ble_eq_true rfl))
local macro_rules | `(tactic| wtm_at "ev") => `(tactic| repeat' (wtm_at "ev1"))
local macro_rules | `(tactic| wtm_at "jj") => `(tactic| first | assumption | exact Ext.j (by assumption))
local macro_rules | `(tactic| wtm_at "evc") => `(tactic| first | with_reducible apply ev_contains | with_reducible apply ev_includes | with_reducible apply ev_touches | with_reducible apply ev_cover_of | with_reducible apply ev_w_cover_of | with_reducible apply ev_w_within | with_reducible apply ev_w_touches | with_reducible apply ev_least_record | with_reducible apply ev_selected | with_reducible apply ev_w_rows | with_reducible apply ev_ask | with_reducible apply ev_w_ask | with_reducible apply ev_apply | with_reducible apply ev_at | with_reducible apply ev_w_at | with_reducible apply ev_results | with_reducible apply ev_w_results | with_reducible apply ev_is_answer_at | with_reducible apply ev_is_true_at | with_reducible apply ev_is_true | with_reducible apply ev_w_is_true | with_reducible apply ev_supports_newest | with_reducible apply ev_supports | with_reducible apply ev_w_supports | with_reducible apply ev_accepts | with_reducible apply ev_w_accepts | with_reducible apply ev_w_is_right | with_reducible apply ev_w_reach | with_reducible apply ev_w_mix | with_reducible apply ev_w_number | with_reducible apply ev_w_is_integer | with_reducible apply ev_w_tells)
theorem four {r : Int} (h0 : 0 ≤ r) (h1 : r < 4) : r = 0 ∨ r = 1 ∨ r = 2 ∨ r = 3 := by omega
theorem key_sum : ∀ x, x ∈ (["a", "b", "c", "d"] : List Str) → ∀ y, y ∈ (["", "", "a", "z"] : List Str) → (x ++ y) ∈ keys ∧ x.length + y.length ≤ 100 := by decide +kernel
def isLet (d : D) : Prop := ∃ k : Str, d = .str k ∧ k ∈ (["a", "b", "c", "d"] : List Str)
def isEnd (d : D) : Prop := ∃ k : Str, d = .str k ∧ k ∈ (["", "", "a", "z"] : List Str)
theorem qu_of {k : Str} {c : Cov} (h1 : c.1 ∈ keys) (h2 : c.2 ∈ keys) (hk : k ∈ (["get", "count", "sum", "list", "least"] : List Str)) (hg : k ≠ "get") : isQu (.tup [.str k, .str c.1, .str c.2]) := by
  rcases List.mem_cons.mp hk with rfl | hk
  · exact absurd rfl hg
  rcases List.mem_cons.mp hk with rfl | hk
  · exact ⟨.cnt c, rfl, h1, h2⟩
  rcases List.mem_cons.mp hk with rfl | hk
  · exact ⟨.sum c, rfl, h1, h2⟩
  rcases List.mem_cons.mp hk with rfl | hk
  · exact ⟨.lst c, rfl, h1, h2⟩
  rcases List.mem_cons.mp hk with rfl | hk
  · exact ⟨.lea c, rfl, h1, h2⟩
  cases hk
theorem imm_isQu (d : D) (h : isQu d) : d.imm = true := by
  obtain ⟨q, rfl, _⟩ := h
  exact imm_kQ q
section
variable {P : Program} {w : World} {K : PySem.W.Frag} {mg : Str → Option Value} {base : Heap}
theorem sc_w_key : FnScope ["_law_state_here"] ["_law_state_here"] d_w_key.scope := ⟨rfl, rfl, rfl, by decide +kernel, rfl, by decide +kernel, by decide +kernel⟩
theorem g_w_key (T : Tx K mg) (G_w_draw : Good P w K mg base 3 "_law_draw" ["_law_state_here", "_law_many"] sp_w_draw) : Good P w K mg base 4 "_law_key" ["_law_state_here"] sp_w_key := by
  refine good_def (D_w_key T.c) (T.glo _ (F_g_w_key T.c)) (fun _ _ _ _ _ _ us hl => match us, hl with | [_], _ => rfl) sc_w_key (len_C fun _ => rfl) ⟨_, fun f cdv A outer s H E hr =>
    (pss_one (ps_ret (pe_op op_add_str (pe_ix ix_str pe_str (pe_cG G_w_draw hr rfl (pa_cons (pv 0) (pa_cons pe_int pa_nil))) (fun _ _ => rfl)) (pe_ix (k_ix_list (K := K) rfl) (pe_lst (pa_cons pe_str (pa_cons pe_str (pa_cons pe_str (pa_cons pe_str pa_nil))))) (pe_cG G_w_draw hr rfl (pa_cons (pv 0) (pa_cons pe_int pa_nil))) (fun _ _ => rfl))))), ?_⟩
  rintro vs H Q E ⟨F, ⟨s, a, _⟩, j, hv, ⟨dr, _⟩, kk⟩
  obtain ⟨v1, rfl, h1⟩ := hv.one
  have h1' : Dv F H v1 (.adr s) := h1
  apply s_retC (C := isKey) j
  · apply ec_op (C1 := isLet) (C2 := isEnd)
    · refine ec_op ev_str.toC1 (ec_draw dr (n := 4) ?_ (by decide) (by decide)) fun d1 d2 H1 e c1 c2 => ?_
      · wtm_at "ev"
      · subst c1
        obtain ⟨r, rfl, r0, r1⟩ := c2
        rcases four r0 r1 with rfl | rfl | rfl | rfl
        · exact ⟨.str "a", ⟨"a", rfl, by decide⟩, rv_ixS (by decide) rfl⟩
        · exact ⟨.str "b", ⟨"b", rfl, by decide⟩, rv_ixS (by decide) rfl⟩
        · exact ⟨.str "c", ⟨"c", rfl, by decide⟩, rv_ixS (by decide) rfl⟩
        · exact ⟨.str "d", ⟨"d", rfl, by decide⟩, rv_ixS (by decide) rfl⟩
    · refine ec_pick (n := 4) (ec_lit (ds := [.str "", .str "", .str "a", .str "z"]) ?_ rfl ?_) (ec_draw dr ?_ (by decide) (by decide))
      · wtm_at "ev"
      · intro x hx
        obtain ⟨k, hk, rfl⟩ := List.mem_map.mp (show x ∈ (["", "", "a", "z"] : List Str).map D.str from hx)
        exact ⟨k, rfl, hk⟩
      · wtm_at "ev"
    · intro d1 d2 H1 e c1 c2
      obtain ⟨x, rfl, hx⟩ := c1
      obtain ⟨y, rfl, hy⟩ := c2
      have z := key_sum x hx y hy
      exact ⟨.str (x ++ y), ⟨_, rfl, z.1⟩, rv_addS (Nat.le_trans z.2 (by decide))⟩
  · exact fun v H2 d e c hv => kk v H2 d e c hv
theorem sc_w_cover : FnScope ["_law_state_here", "_law_first", "_law_last"] ["_law_state_here"] d_w_cover.scope := ⟨rfl, rfl, rfl, by decide +kernel, rfl, by decide +kernel, by decide +kernel⟩
theorem g_w_cover (T : Tx K mg) (G_w_key : Good P w K mg base 4 "_law_key" ["_law_state_here"] sp_w_key) (G_w_draw : Good P w K mg base 3 "_law_draw" ["_law_state_here", "_law_many"] sp_w_draw) : Good P w K mg base 5 "_law_cover" ["_law_state_here"] sp_w_cover := by
  refine good_def (D_w_cover T.c) (T.glo _ (F_g_w_cover T.c)) (fun _ _ _ _ _ _ us hl => match us, hl with | [_], _ => rfl) sc_w_cover (len_C fun _ => rfl) ⟨_, fun f cdv A outer s H E hr =>
    (pss_cons (ps_set (i := 1) sc_w_cover.nd rfl (Or.inl rfl) (pe_cG G_w_key hr rfl (pa_cons (pv 0) pa_nil)))
      (pss_cons (ps_set (i := 2) sc_w_cover.nd rfl (Or.inl rfl) (pe_cG G_w_key hr rfl (pa_cons (pv 0) pa_nil)))
      (pss_cons (ps_if (pt_cmpR op_eq (pe_cG G_w_draw (hr.mono (by decide)) rfl (pa_cons (pv 0) (pa_cons pe_int pa_nil))) pe_int (nomark _)) (pss_one (ps_ret (pe_tup (pa_cons (pv 1) (pa_cons (pv 1) pa_nil))))) pss_nil)
      (pss_cons (ps_if (PW.pt (pw_and (pt_cmpR op_ltS (pv 2) (pv 1) (nomark _)) (pw_and1 (pt_cmpR op_gt (pe_cG G_w_draw (hr.mono (by decide)) rfl (pa_cons (pv 0) (pa_cons pe_int pa_nil))) pe_int (nomark _))))) (pss_one (ps_ret (pe_tup (pa_cons (pv 2) (pa_cons (pv 1) pa_nil))))) pss_nil)
      (pss_one (ps_ret (pe_tup (pa_cons (pv 1) (pa_cons (pv 2) pa_nil))))))))), ?_⟩
  rintro vs H Q E ⟨F, ⟨s, a, _⟩, j, hv, ⟨dr, _⟩, kk⟩
  obtain ⟨v1, rfl, h1⟩ := hv.one
  have h1' : Dv F H v1 (.adr s) := h1
  apply s_setCS j (ec_key dr (by wtm_at "ev"))
  rintro v2 H2 d2 e2 ⟨k1, rfl, m1⟩ h2
  apply s_setCS e2.j (ec_key dr (by wtm_at "ev"))
  rintro v3 H3 d3 e3 ⟨k2, rfl, m2⟩ h3
  apply s_ifPS e3.j (etp_bool (ec_eqI (ec_draw dr (n := 3) (by wtm_at "ev") (by decide) (by decide)) below_int))
  · intro H4 e4 _
    apply s_ret (d := kC (k1, k1)) e4.j
    · wtm_at "ev"
    · exact fun v H5 e hv => kk v H5 _ (((e2.trans e3).trans e4).trans e) ⟨(k1, k1), rfl, m1, m1⟩ hv
  intro H4 e4 _
  apply s_ifPS e4.j (P := fun c => c = true → ltS k2 k1 = true) (etp_and (P := fun _ => True) ?_ ?_)
  · intro H5 e5 _
    apply s_ret (d := kC (k2, k1)) e5.j
    · wtm_at "ev"
    · exact fun v H6 e hv => kk v H6 _ ((((e2.trans e3).trans e4).trans e5).trans e) ⟨(k2, k1), rfl, m2, m1⟩ hv
  · intro H5 e5 _
    apply s_ret (d := kC (k1, k2)) e5.j
    · wtm_at "ev"
    · exact fun v H6 e hv => kk v H6 _ ((((e2.trans e3).trans e4).trans e5).trans e) ⟨(k1, k2), rfl, m1, m2⟩ hv
  · wtm_at "ev"
  · exact fun _ => etp_bool (ec_gtI (ec_draw dr (n := 6) (by wtm_at "ev") (by decide) (by decide)) below_int)
theorem sc_w_question : FnScope ["_law_state_here", "_law_first", "_law_last", "_law_kind"] ["_law_state_here"] d_w_question.scope := ⟨rfl, rfl, rfl, by decide +kernel, rfl, by decide +kernel, by decide +kernel⟩
theorem g_w_question (T : Tx K mg) (G_w_cover : Good P w K mg base 5 "_law_cover" ["_law_state_here"] sp_w_cover) (G_w_draw : Good P w K mg base 3 "_law_draw" ["_law_state_here", "_law_many"] sp_w_draw) : Good P w K mg base 6 "_law_question" ["_law_state_here"] sp_w_question := by
  refine good_def (D_w_question T.c) (T.glo _ (F_g_w_question T.c)) (fun _ _ _ _ _ _ us hl => match us, hl with | [_], _ => rfl) sc_w_question (len_C fun _ => rfl) ⟨_, fun f cdv A outer s H E hr =>
    (pss_cons (ps_asg (pe_cG G_w_cover hr rfl (pa_cons (pv 0) pa_nil)) (k_pg_tup (K := K) (n := 2) rfl rfl (pgs_cons (pg_name (i := 1) sc_w_question.nd rfl (Or.inl rfl)) (pgs_cons (pg_name (i := 2) sc_w_question.nd rfl (Or.inl rfl)) pgs_nil))))
      (pss_cons (ps_set (i := 3) sc_w_question.nd rfl (Or.inl rfl) (pe_ix (k_ix_list (K := K) rfl) (pe_lst (pa_cons pe_str (pa_cons pe_str (pa_cons pe_str (pa_cons pe_str (pa_cons pe_str pa_nil)))))) (pe_cG G_w_draw (hr.mono (by decide)) rfl (pa_cons (pv 0) (pa_cons pe_int pa_nil))) (fun _ _ => rfl)))
      (pss_one (ps_ret (pe_ifExp (pt_cmpR op_eq (pv 3) pe_str (nomark _)) (pe_tup (pa_cons pe_str (pa_cons (pv 1) pa_nil))) (pe_tup (pa_cons (pv 3) (pa_cons (pv 1) (pa_cons (pv 2) pa_nil))))))))), ?_⟩
  rintro vs H Q E ⟨F, ⟨s, a, _⟩, j, hv, ⟨dr, _⟩, kk⟩
  obtain ⟨v1, rfl, h1⟩ := hv.one
  have h1' : Dv F H v1 (.adr s) := h1
  apply s_asgCS j (ec_cover dr (by wtm_at "ev"))
  rintro v H2 d2 e2 ⟨c, rfl, m1, m2⟩ h2
  refine g_unp2 h2 fun w1 w2 hw1 hw2 => ?_
  apply s_setCS (C := fun d => ∃ k : Str, d = .str k ∧ k ∈ (["get", "count", "sum", "list", "least"] : List Str)) e2.j
  · refine ec_pick (n := 5) (ec_lit (ds := [.str "get", .str "count", .str "sum", .str "list", .str "least"]) ?_ rfl ?_) (ec_draw dr ?_ (by decide) (by decide))
    · wtm_at "ev"
    · intro x hx
      obtain ⟨k, hk, rfl⟩ := List.mem_map.mp (show x ∈ (["get", "count", "sum", "list", "least"] : List Str).map D.str from hx)
      exact ⟨k, rfl, hk⟩
    · wtm_at "ev"
  rintro v3 H3 d3 e3 ⟨k, rfl, hk⟩ h3
  by_cases hg : k = "get"
  · subst hg
    apply s_ret (d := kQ (.get c.1)) e3.j
    · refine ev_ifT (b := decide (("get" : Str) = "get")) ?_ rfl ?_
      · wtm_at "ev"
      · wtm_at "ev"
    · exact fun v H5 e hv => kk v H5 _ ((e2.trans e3).trans e) ⟨.get c.1, rfl, m1, m1⟩ hv
  · apply s_ret (d := .tup [.str k, .str c.1, .str c.2]) e3.j
    · refine ev_ifF (b := decide (k = "get")) ?_ (decide_eq_false hg) ?_
      · wtm_at "ev"
      · wtm_at "ev"
    · exact fun v H5 e hv => kk v H5 _ ((e2.trans e3).trans e) (qu_of m1 m2 hk hg) hv
theorem sc_w_promise : FnScope ["_law_state_here"] ["_law_state_here"] d_w_promise.scope := ⟨rfl, rfl, rfl, by decide +kernel, rfl, by decide +kernel, by decide +kernel⟩
theorem g_w_promise (T : Tx K mg) (G_w_draw : Good P w K mg base 3 "_law_draw" ["_law_state_here", "_law_many"] sp_w_draw) : Good P w K mg base 4 "_law_promise" ["_law_state_here"] sp_w_promise := by
  refine good_def (D_w_promise T.c) (T.glo _ (F_g_w_promise T.c)) (fun _ _ _ _ _ _ us hl => match us, hl with | [_], _ => rfl) sc_w_promise (len_C fun _ => rfl) ⟨_, fun f cdv A outer s H E hr =>
    (pss_one (ps_ret (pe_ix (k_ix_list (K := K) rfl) (pe_lst (pa_cons (pe_tup (pa_cons pe_str pa_nil)) (pa_cons (pe_tup (pa_cons pe_str pa_nil)) (pa_cons (pe_tup (pa_cons pe_str (pa_cons (pe_cG G_w_draw hr rfl (pa_cons (pv 0) (pa_cons pe_int pa_nil))) pa_nil))) pa_nil)))) (pe_cG G_w_draw hr rfl (pa_cons (pv 0) (pa_cons pe_int pa_nil))) (fun _ _ => rfl)))), ?_⟩
  rintro vs H Q E ⟨F, ⟨s, a, _⟩, j, hv, ⟨dr, _⟩, kk⟩
  obtain ⟨v1, rfl, h1⟩ := hv.one
  have h1' : Dv F H v1 (.adr s) := h1
  apply s_retC (C := isPr) j
  · refine ec_pick (n := 3) (EvC.imp (ec_lst (eac_cons (Ev.toC1 (d := kP .any) ?_) (eac_cons (Ev.toC1 (d := kP .newest) ?_) (eac_cons (ec_tup (eac_cons ev_str.toC1 (eac_cons (ec_draw dr (n := 12) ?_ (by decide) (by decide)) eac_nil)) ?_) eac_nil))) ?_) ?_) (ec_draw dr ?_ (by decide) (by decide))
    · wtm_at "ev"
    · wtm_at "ev"
    · wtm_at "ev"
    · rintro ds ⟨d, r, rfl, _, d2, r2, rfl, _, rfl⟩
      show 2 ≤ 1000
      decide
    · rintro ds ⟨d, r, rfl, _, d2, r2, rfl, _, d3, r3, rfl, _, rfl⟩
      show 3 ≤ 1000
      decide
    · rintro d ⟨ds, rfl, d, r, rfl, rfl, d2, r2, rfl, rfl, d3, r3, rfl, ⟨es, rfl, d4, r4, rfl, rfl, d5, r5, rfl, ⟨t, rfl, _⟩, rfl⟩, rfl⟩
      refine ⟨_, rfl, rfl, fun x hx => ?_⟩
      rcases List.mem_cons.mp hx with rfl | hx
      · exact ⟨.any, rfl⟩
      rcases List.mem_cons.mp hx with rfl | hx
      · exact ⟨.newest, rfl⟩
      rcases List.mem_cons.mp hx with rfl | hx
      · exact ⟨.age t, rfl⟩
      cases hx
    · wtm_at "ev"
  · exact fun v H2 d e c hv => kk v H2 d e c hv
theorem sc_w_read : FnScope ["_law_state_here", "_law_number_here", "_law_questions", "_law_k"] ["_law_state_here", "_law_number_here"] d_w_read.scope := ⟨rfl, rfl, rfl, by decide +kernel, rfl, by decide +kernel, by decide +kernel⟩
theorem g_w_read (T : Tx K mg) (G_w_draw : Good P w K mg base 3 "_law_draw" ["_law_state_here", "_law_many"] sp_w_draw) (G_w_question : Good P w K mg base 6 "_law_question" ["_law_state_here"] sp_w_question) (G_w_promise : Good P w K mg base 4 "_law_promise" ["_law_state_here"] sp_w_promise) : Good P w K mg base 7 "_law_read" ["_law_state_here", "_law_number_here"] sp_w_read := by
  refine good_def (D_w_read T.c) (T.glo _ (F_g_w_read T.c)) (fun _ _ _ _ _ _ us hl => match us, hl with | [_, _], _ => rfl) sc_w_read (len_C fun _ => rfl) ⟨_, fun f cdv A outer s H E hr =>
    (pss_cons (ps_setLc (i := 2) (own := [("_law_k", 3)]) (g := gName 3) (tt := tYes) rfl sc_w_read.nd rfl rfl (sw_true rfl rfl rfl (by decide +kernel)) (pi_range1 (by rfl) (T.free _ (F_b_range T.c)) (pa_cons (pe_op op_add pe_int (pe_cG G_w_draw (hr.mono (by decide)) rfl (pa_cons (pv 0) (pa_cons pe_int pa_nil)))) pa_nil)) (blkOk_by (own := [("_law_k", 3)]) (N := ["_law_state_here", "_law_number_here", "_law_questions", "_law_k"]) (sc := d_w_read.scope) (by decide +kernel)) (fun _ _ _ _ _ => pg_name (i := 3) sc_w_read.nd rfl (Or.inl rfl)) (fun _ _ _ _ _ => pts_nil) (fun _ _ _ _ _ => (pe_cG G_w_question hr rfl (pa_cons (pv 0) pa_nil))))
      (pss_one (ps_ret (pe_tup (pa_cons (pv 1) (pa_cons (pe_ix (k_ix_list (K := K) rfl) (pe_lst (pa_cons pe_str (pa_cons pe_str pa_nil))) (pe_cG G_w_draw (hr.mono (by decide)) rfl (pa_cons (pv 0) (pa_cons pe_int pa_nil))) (fun _ _ => rfl)) (pa_cons (pv 2) (pa_cons (pe_cG G_w_promise (hr.mono (by decide)) rfl (pa_cons (pv 0) pa_nil)) pa_nil)))))))), ?_⟩
  rintro vs H Q E ⟨F, ⟨s, a, n⟩, j, hv, ⟨dr, _⟩, kk⟩
  obtain ⟨v1, v2, rfl, h1, h2⟩ := hv.two
  have h1' : Dv F H v1 (.adr s) := h1
  have h2' : Dv F H v2 (.int n) := h2
  apply s_setCS j (ec_lcR (N := fun d => ∃ n : Int, d = .int n ∧ 1 ≤ n ∧ n ≤ 3) (C := isQu) ?_ ?_ imm_isQu (fun _ => rfl) ?_)
  · rintro v3 H3 d3 e3 ⟨m, ds, ⟨_, e, m0, m1⟩, rfl, hl, hall⟩ h3
    injection e with e
    subst e
    obtain ⟨qs, rfl, hqs⟩ := map_of (enc := kQ) (P := Qu.ok) hall
    rw [List.length_map] at hl
    apply s_retC (C := isRd n) e3.j
    · refine EvC.imp (ec_tup (eac_cons (Ev.toC1 (d := .int n) ?_) (eac_cons (ec_pick (C := fun d => d = .str "s" ∨ d = .str "t") (n := 2) (ec_lit (ds := [.str "s", .str "t"]) ?_ rfl ?_) (ec_draw dr ?_ (by decide) (by decide))) (eac_cons (Ev.toC1 (d := kQs qs) ?_) (eac_cons (ec_promise dr ?_) eac_nil)))) ?_) ?_
      · wtm_at "ev"
      · wtm_at "ev"
      · intro x hx
        rcases List.mem_cons.mp hx with rfl | hx
        · exact Or.inl rfl
        · exact Or.inr (List.mem_singleton.mp hx)
      · wtm_at "ev"
      · exact ev_var rfl h3
      · wtm_at "ev"
      · rintro ds ⟨d, r, rfl, _, d2, r2, rfl, _, d3, r3, rfl, _, d4, r4, rfl, _, rfl⟩
        show 4 ≤ 1000
        decide
      · rintro d ⟨ds, rfl, d, r, rfl, rfl, d2, r2, rfl, hd2, d3, r3, rfl, rfl, d4, r4, rfl, ⟨pr, rfl⟩, rfl⟩
        have s1 : PySem.PyData.strOk "s" = true := by decide +kernel
        have s2 : PySem.PyData.strOk "t" = true := by decide +kernel
        have qk : QsOk qs := ⟨hqs, by omega⟩
        rcases hd2 with rfl | rfl
        · exact ⟨⟨n, "s", qs, pr⟩, rfl, qk, by show 1 ≤ qs.length; omega, by show qs.length ≤ 3; omega, s1⟩
        · exact ⟨⟨n, "t", qs, pr⟩, rfl, qk, by show 1 ≤ qs.length; omega, by show qs.length ≤ 3; omega, s2⟩
    · exact fun v H5 d e c hv => kk v H5 d (e3.trans e) c hv
  · refine ec_add (Ev.toC1 ev_int) (ec_draw dr (n := 3) ?_ (by decide) (by decide)) eq_int below_int fun i k c1 c2 => ?_
    · wtm_at "ev"
    · injection c1 with c1
      obtain ⟨r, e, r0, r1⟩ := c2
      injection e with e
      exact ⟨i + k, rfl, by omega, by omega⟩
  · rintro d ⟨m, rfl, m0, m1⟩
    exact ⟨m, rfl, by omega, by omega⟩
  · intro k H' e'
    refine ec_question dr ?_
    wtm_at "ev"
end
end Le

namespace Le
open PySem PySem.Spec PyProof.Rows L2
local macro_rules | `(tactic| wtm_at "ev1") => `(tactic| first
  | with_reducible exact ev_int | with_reducible exact ev_str | with_reducible exact ev_bl | with_reducible exact ev_non
  | with_reducible apply ev_var | with_reducible apply ev_op | with_reducible apply ev_chain
  | with_reducible apply ev_and | with_reducible apply ev_or | with_reducible apply ev_not
  | with_reducible apply et_and | with_reducible apply et_or | with_reducible apply et_not | with_reducible apply et_test | with_reducible apply et_B | with_reducible apply et_tru
  | with_reducible apply ev_if
  | with_reducible apply ev_tup | with_reducible apply ev_lst | with_reducible apply ea_cons | with_reducible exact ea_nil | with_reducible apply ev_cb
  | with_reducible exact rv_add | with_reducible exact rv_sub | with_reducible exact rv_lt | with_reducible exact rv_le | with_reducible exact rv_gt | with_reducible exact rv_ge
  | with_reducible exact rv_S | with_reducible exact rv_eqS | with_reducible exact rv_neS | with_reducible exact rv_eqI | with_reducible exact rv_neI | with_reducible exact rv_isN | with_reducible exact rv_notN | with_reducible exact rv_isB
  | with_reducible apply rv_ixT | with_reducible apply rv_ixL
  | with_reducible exact rc_lenL | with_reducible exact rc_lenT | with_reducible exact rc_list | with_reducible exact rc_tuple | with_reducible exact rc_intI | with_reducible exact rc_intB | with_reducible exact rc_min | with_reducible exact rc_max
  | wtm_at "evc"
  | (with_reducible apply dv_id; assumption) | (with_reducible apply dv_mono; assumption) | with_reducible apply dv_pin
  | (with_reducible intro _) | (with_reducible apply at_id; assumption) | exact rfl | (with_reducible apply le_id; exact Nat.le_of_ble_eq_true rfl))
local macro_rules | `(tactic| wtm_at "ev") => `(tactic| repeat' (wtm_at "ev1"))
local macro_rules | `(tactic| wtm_at "jj") => `(tactic| first | assumption | exact Ext.j (by assumption))
local macro_rules | `(tactic| wtm_at "evc") => `(tactic| first | with_reducible apply ev_contains | with_reducible apply ev_includes | with_reducible apply ev_touches | with_reducible apply ev_cover_of | with_reducible apply ev_w_cover_of | with_reducible apply ev_w_within | with_reducible apply ev_w_touches | with_reducible apply ev_least_record | with_reducible apply ev_selected | with_reducible apply ev_w_rows | with_reducible apply ev_ask | with_reducible apply ev_w_ask | with_reducible apply ev_apply | with_reducible apply ev_at | with_reducible apply ev_w_at | with_reducible apply ev_results | with_reducible apply ev_w_results | with_reducible apply ev_is_answer_at | with_reducible apply ev_is_true_at | with_reducible apply ev_is_true | with_reducible apply ev_w_is_true | with_reducible apply ev_supports_newest | with_reducible apply ev_supports | with_reducible apply ev_w_supports | with_reducible apply ev_accepts | with_reducible apply ev_w_accepts | with_reducible apply ev_w_is_right | with_reducible apply ev_w_reach | with_reducible apply ev_w_mix | with_reducible apply ev_w_number | with_reducible apply ev_w_is_integer | with_reducible apply ev_w_tells)
def isKeysN (n : Nat) (ks : List Str) : Prop := ks.length ≤ n ∧ ∀ k, k ∈ ks → k ∈ keys
theorem dva_str2 {F : Fr} {H : Hp} : ∀ {ys : List V} {ns : List Str}, DvA F H ys (ns.map D.str) → ys = ns.map V.str
  | [], [], _ => rfl
  | [], _ :: _, h => by cases h
  | _ :: _, [], h => by cases h
  | y :: ys, n :: ns, .cons a b => by
    rw [a.str_inv, dva_str2 b]
    rfl
theorem rv_notInS {F : Fr} {K : PySem.W.Frag} {H : Hp} {x : Str} {xs : List Str} : RV F (rIn K true) (.str x) (.lst (xs.map D.str)) H (.bl (!(inV (.str x) (xs.map V.str)))) := fun v y H1 e hx hy Q q => by
  cases hx.str_inv
  obtain ⟨a, ys, rfl, s, ha, hd⟩ := hy.lst_inv
  have ey := dva_str2 hd
  subst ey
  refine ⟨a, _, rfl, Or.inl (SqL.of ha), rfl, ?_, q _ H1 (Ext.refl e.j) (.bl _)⟩
  rw [List.all_eq_true]
  intro v hv
  obtain ⟨c, _, rfl⟩ := List.mem_map.mp hv
  rfl
theorem gok_snoc {g : Gr} {k : Str} {o : Option Int} (h : GOk g) (hk : k ∈ keys) : GOk (g ++ [(k, o)]) := fun w hw => by
  rcases List.mem_append.mp hw with z | z
  · exact h w z
  · rw [List.mem_singleton.mp z]
    exact hk
section
variable {P : Program} {w : World} {K : PySem.W.Frag} {mg : Str → Option Value} {base : Heap}
theorem sc_w_group : FnScope ["_law_state_here", "_law_writes", "_law_key_here", "_law_k", "_law_other", "_law_value"] ["_law_state_here"] d_w_group.scope := ⟨rfl, rfl, rfl, by decide +kernel, rfl, by decide +kernel, by decide +kernel⟩
theorem g_w_group (T : Tx K mg) (G_w_draw : Good P w K mg base 3 "_law_draw" ["_law_state_here", "_law_many"] sp_w_draw) (G_w_key : Good P w K mg base 4 "_law_key" ["_law_state_here"] sp_w_key) : Good P w K mg base 5 "_law_group" ["_law_state_here"] sp_w_group := by
  refine good_def (D_w_group T.c) (T.glo _ (F_g_w_group T.c)) (fun _ _ _ _ _ _ us hl => match us, hl with | [_], _ => rfl) sc_w_group (len_C fun _ => rfl) ⟨_, fun f cdv A outer s H E hr =>
    (pss_cons (ps_set (i := 1) sc_w_group.nd rfl (Or.inl rfl) (pe_lst pa_nil))
      (pss_cons (ps_for PassesOwn.never rfl (k_pi_list (K := K) rfl (pe_callB (k_sorted (K := K) rfl) (by rfl) (T.free _ (F_b_sorted T.c)) (by decide +kernel) (pa_cons (pe_lc (own := [("_law_k", 3)]) (g := gName 3) (tt := tYes) rfl sc_w_group.nd (pi_range1 (by rfl) (T.free _ (F_b_range T.c)) (pa_cons (pe_op op_add pe_int (pe_cG G_w_draw (hr.mono (by decide)) rfl (pa_cons (pv 0) (pa_cons pe_int pa_nil)))) pa_nil)) (blkOk_by (own := [("_law_k", 3)]) (N := ["_law_state_here", "_law_writes", "_law_key_here", "_law_k", "_law_other", "_law_value"]) (sc := d_w_group.scope) (by decide +kernel)) (fun _ _ _ _ _ => pg_name (i := 3) sc_w_group.nd rfl (Or.inl rfl)) (fun _ _ _ _ _ => pts_nil) (fun _ _ _ _ _ => (pe_cG G_w_key hr rfl (pa_cons (pv 0) pa_nil)))) pa_nil))) (pg_name (i := 2) sc_w_group.nd rfl (Or.inl rfl)) (pss_one (ps_if (pt_cmpR (k_notIn_seq (K := K) rfl) (pv 2) (pe_lc (own := [("_law_other", 4), ("_law_value", 5)]) (g := gTup K 2 (gCons (gName 4) (gCons (gName 5) gNil))) (tt := tYes) rfl sc_w_group.nd (k_pi_list (K := K) rfl (pv 1)) (blkOk_by (own := [("_law_other", 4), ("_law_value", 5)]) (N := ["_law_state_here", "_law_writes", "_law_key_here", "_law_k", "_law_other", "_law_value"]) (sc := d_w_group.scope) (by decide +kernel)) (fun _ _ _ _ _ => (k_pg_tup (K := K) (n := 2) rfl rfl (pgs_cons (pg_name (i := 4) sc_w_group.nd rfl (Or.inl rfl)) (pgs_cons (pg_name (i := 5) sc_w_group.nd rfl (Or.inl rfl)) pgs_nil)))) (fun _ _ _ _ _ => pts_nil) (fun _ _ _ _ _ => (pv 4))) (by rfl)) (pss_one (ps_expr (k_bm (K := K) rfl PySem.F.plainAttrs_list PySem.F.slot_list_append PySem.F.type_list_append mt_append (pv 1) (pa_cons (pe_tup (pa_cons (pv 2) (pa_cons (pe_ifExp (pt_cmpR op_eq (pe_cG G_w_draw (hr.mono (by decide)) rfl (pa_cons (pv 0) (pa_cons pe_int pa_nil))) pe_int (nomark _)) pe_non (pe_op op_sub (pe_cG G_w_draw (hr.mono (by decide)) rfl (pa_cons (pv 0) (pa_cons pe_int pa_nil))) pe_int)) pa_nil))) pa_nil)))) pss_nil)))
      (pss_one (ps_ret (pe_callTy (k_tuple (K := K) rfl) (by rfl) (T.free _ (F_b_tuple T.c)) (by decide +kernel) (pa_cons (pv 1) pa_nil)))))), ?_⟩
  rintro vs H Q E ⟨F, ⟨s, a, _⟩, j, hv, ⟨dr, _⟩, kk⟩
  obtain ⟨v1, rfl, h1⟩ := hv.one
  have h1' : Dv F H v1 (.adr s) := h1
  refine s_newS j fun p hp jp => ?_
  have h1p := (h1'.add (p := p) (o := .lst []) hp).pin (o := .lst [])
  have drp := dr.pin (p := p) (o := .lst [])
  apply s_forC (F := F.pin p (.lst [])) (C := fun d => ∃ ks ks' : List Str, d = .lst (ks.map D.str) ∧ ks.Perm ks' ∧ isKeysN 3 ks') jp
  · refine ec_sorted (Pk := isKeysN 3) ?_ fun ks pk => by have := pk.1; omega
    refine EvC.imp (ec_lcR (N := fun d => ∃ n : Int, d = .int n ∧ 1 ≤ n ∧ n ≤ 3) (C := isKey) ?_ ?_ ?_ (fun _ => rfl) ?_) ?_
    · refine ec_add (Ev.toC1 ev_int) (ec_draw drp (n := 3) ?_ (by decide) (by decide)) eq_int below_int fun i k c1 c2 => ?_
      · wtm_at "ev"
      · injection c1 with c1
        obtain ⟨r, e, r0, r1⟩ := c2
        injection e with e
        exact ⟨i + k, rfl, by omega, by omega⟩
    · rintro d ⟨m, rfl, m0, m1⟩
      exact ⟨m, rfl, by omega, by omega⟩
    · rintro d ⟨k, rfl, _⟩
      rfl
    · intro k H' e'
      refine ec_key drp ?_
      wtm_at "ev"
    · rintro d ⟨n, ds, ⟨_, e, m0, m1⟩, rfl, hl, hall⟩
      injection e with e
      subst e
      obtain ⟨ks, rfl, hks⟩ := map_of (enc := D.str) (P := fun k => k ∈ keys) hall
      rw [List.length_map] at hl
      exact ⟨ks, rfl, by omega, hks⟩
  · rintro d ⟨ks, ks', rfl, _⟩
    exact ⟨_, rfl⟩
  rintro ds v H2 e2 ⟨ks, ks', e, hperm, hkn, hks⟩ hv2
  injection e with e
  subst e
  have nU : ¬ F.U p := fun u => F.live j u hp
  have nS : ¬ F.S p := fun s => nU (F.sub s)
  have kl : ks.length ≤ 3 := by
    rw [hperm.length_eq]
    exact hkn
  have h12 : Dv (F.add p) H2 (.ref s) (.adr s) := .adr s
  cases h1'.adr_inv
  apply s_forLSp Le1.pin e2.j (ev_val hv2) (Pv := fun i σ' H' => ∃ b xs g, σ' = [some (.ref s), some (.ref p), b, none, none, none] ∧ H' p = some (.lst xs) ∧ DvA (F.add p) H' xs (g.map kW) ∧ GOk g ∧ g.length ≤ i)
  · intro H3 e3
    exact ⟨none, [], [], rfl, e3.at_, .nil, (fun w h => by cases h), Nat.le_refl _⟩
  · rintro i d v σ' H' hi e' ⟨b, xs, g, rfl, hx, hda, gk, gl⟩ hv
    rw [List.getElem?_map] at hi
    obtain ⟨k, hk, rfl⟩ := Option.map_eq_some_iff.mp hi
    have hil : i < ks.length := (List.getElem?_eq_some_iff.mp hk).1
    have kin : k ∈ keys := hks k (hperm.mem_iff.mp (List.mem_of_getElem? hk))
    have jq := pin_j e'.j hx rfl
    have dp : Dv F H' (.ref p) (.lst (g.map kW)) := .lst nS hx hda.sub
    have dk : Dv F H' v (.str k) := hv.sub
    apply s_ifN (F := F) (b := !(inV (.str k) ((g.map (·.1)).map V.str))) jq.1
    · apply et_test
      refine ev_op (d2 := .lst ((g.map (·.1)).map D.str)) (ev_var rfl dk) ?_ rv_notInS
      rw [List.map_map]
      refine (ev_lcM (ws := g) (enc := kW) ?_ (D.str ∘ fun x => x.1) (fun _ _ => rfl) ?_ ?_).toEv
      · exact ev_var rfl dp
      · omega
      · intro i x v H'' hi e' hv
        obtain ⟨w1, w2, hw1, hw2, hg⟩ := g_two hv
        refine ⟨_, hg, rfl, ?_⟩
        exact ev_var rfl hw1
    · intro _ H3 e3
      have e4 := e3.toPin jq
      have dk4 : Dv (F.pin p (.lst xs)) H3 v (.str k) := hv.pin.mono e4
      have drq := dr.pin (p := p) (o := .lst xs)
      have ds4 : Dv (F.pin p (.lst xs)) H3 (.ref s) (.adr s) := .adr s
      apply s_appC (C := fun d => ∃ o, d = kW (k, o)) e4.j rfl
      · refine EvC.imp (ec_tup (eac_cons (Ev.toC1 (ev_var rfl dk4)) (eac_cons (C := fun d => ∃ o, d = oD o) ?_ eac_nil)) ?_) ?_
        · refine ec_if (etp_bool (ec_eqI (ec_draw drq (n := 3) ?_ (by decide) (by decide)) below_int)) (fun _ => ev_non.toC ⟨none, rfl⟩) fun _ => ?_
          · wtm_at "ev"
          · refine ec_sub (ec_draw drq (n := 9) ?_ (by decide) (by decide)) (Ev.toC1 ev_int) below_int eq_int fun i k _ _ => ⟨some (i - k), rfl⟩
            wtm_at "ev"
        · rintro ds ⟨d, r, rfl, _, d2, r2, rfl, _, rfl⟩
          show 2 ≤ 1000
          decide
        · rintro d ⟨ds, rfl, d, r, rfl, rfl, d2, r2, rfl, ⟨o, rfl⟩, rfl⟩
          exact ⟨o, rfl⟩
      · rw [hda.len, List.length_map]
        omega
      · rintro v5 H5 d e5 ⟨o, rfl⟩ hv5
        refine ⟨(e4.trans e5).put rfl, _, _, g ++ [(k, o)], rfl, upd_same, ?_, gok_snoc gk kin, by rw [List.length_append]; show g.length + 1 ≤ i + 1; omega⟩
        have tk := tupF (u := .lst (xs ++ [v5])) e5.at_ rfl
        rw [List.map_append]
        exact ((hda.mono (e4.trans e5).unpin).cast tk (immA_map imm_kW _)).snoc (hv5.cast tk (imm_kW _))
    · intro _ H3 e3
      have e4 := e3.toPin jq
      exact ⟨e4.unpin, _, xs, g, rfl, e4.at_, hda.mono e4.unpin, gk, by omega⟩
  · rintro σ' H' e' ⟨b, xs, g, rfl, hx, hda, gk, gl⟩
    rw [List.length_map] at gl
    have eF : Ext F H H' := Ext.drop' hp (e2.unpin.trans e')
    apply s_ret (F := F) (d := kG g) eF.j
    · exact ev_cb (ea_cons (ev_var rfl (.lst nS hx hda.sub)) ea_nil) rc_tuple
    · exact fun v H5 e hv => kk v H5 _ (eF.trans e) ⟨g, rfl, gk, by omega⟩ hv
theorem sc_w_statement : FnScope ["_law_state_here", "_law_ledger", "_law_leases", "_law_time", "_law_moment", "_law_said"] ["_law_state_here", "_law_ledger", "_law_leases", "_law_time"] d_w_statement.scope := ⟨rfl, rfl, rfl, by decide +kernel, rfl, by decide +kernel, by decide +kernel⟩
theorem g_w_statement (T : Tx K mg) (G_w_draw : Good P w K mg base 3 "_law_draw" ["_law_state_here", "_law_many"] sp_w_draw) : Good P w K mg base 4 "_law_statement" ["_law_state_here", "_law_ledger", "_law_leases", "_law_time"] sp_w_statement := by
  refine good_def (D_w_statement T.c) (T.glo _ (F_g_w_statement T.c)) (fun _ _ _ _ _ _ us hl => match us, hl with | [_, _, _, _], _ => rfl) sc_w_statement (len_C fun _ => rfl) ⟨_, fun f cdv A outer s H E hr =>
    (pss_cons (ps_if (pt_cmpR op_eq (pe_cG G_w_draw hr rfl (pa_cons (pv 0) (pa_cons pe_int pa_nil))) pe_int (nomark _)) (pss_one (ps_ret (pe_tup (pa_cons pe_str (pa_cons (pe_op op_sub (pe_cG G_w_draw hr rfl (pa_cons (pv 0) (pa_cons (pe_op op_add (pe_callB (k_len (K := K) rfl) (by rfl) (T.free _ (F_b_len T.c)) (by decide +kernel) (pa_cons (pv 2) pa_nil)) pe_int) pa_nil))) (pe_callTy call_int' (by rfl) (T.free _ (F_b_int T.c)) (by decide +kernel) (pa_cons (pe_cmpR op_eq (pe_cG G_w_draw hr rfl (pa_cons (pv 0) (pa_cons pe_int pa_nil))) pe_int (nomark _)) pa_nil))) pa_nil))))) pss_nil)
      (pss_cons (ps_set (i := 4) sc_w_statement.nd rfl (Or.inl rfl) (pe_op op_sub (pe_cG G_w_draw hr rfl (pa_cons (pv 0) (pa_cons (pe_op op_add (pe_callB (k_len (K := K) rfl) (by rfl) (T.free _ (F_b_len T.c)) (by decide +kernel) (pa_cons (pv 1) pa_nil)) pe_int) pa_nil))) (pe_callTy call_int' (by rfl) (T.free _ (F_b_int T.c)) (by decide +kernel) (pa_cons (pe_cmpR op_eq (pe_cG G_w_draw hr rfl (pa_cons (pv 0) (pa_cons pe_int pa_nil))) pe_int (nomark _)) pa_nil))))
      (pss_cons (ps_set (i := 5) sc_w_statement.nd rfl (Or.inl rfl) (pe_op op_sub (pe_op op_add (pv 3) pe_int) (pe_cG G_w_draw hr rfl (pa_cons (pv 0) (pa_cons (pe_op op_add (pv 3) pe_int) pa_nil)))))
      (pss_cons (ps_if (PW.pt (pw_and (pt_chain op_lt op_le pe_int (pv 4) (pe_callB (k_len (K := K) rfl) (by rfl) (T.free _ (F_b_len T.c)) (by decide +kernel) (pa_cons (pv 1) pa_nil))) (pw_and1 (pt_cmpR op_gt (pe_cG G_w_draw hr rfl (pa_cons (pv 0) (pa_cons pe_int pa_nil))) pe_int (nomark _))))) (pss_one (ps_set (i := 5) sc_w_statement.nd rfl (Or.inl rfl) (pe_op op_sub (pe_op op_add (pe_ix (k_ix_tup (K := K) rfl) (pe_ix (k_ix_list (K := K) rfl) (pv 1) (pe_op op_sub (pv 4) pe_int) (fun _ _ => rfl)) pe_int (fun _ _ => rfl)) (pe_cG G_w_draw hr rfl (pa_cons (pv 0) (pa_cons pe_int pa_nil)))) pe_int))) pss_nil)
      (pss_one (ps_ret (pe_tup (pa_cons pe_str (pa_cons (pv 5) (pa_cons (pv 4) pa_nil)))))))))), ?_⟩
  rintro vs H Q E ⟨F, ⟨s, a, ⟨l, ls, time⟩⟩, j, hv, ⟨dr, ⟨l1, l2, t0, t1⟩⟩, kk⟩
  obtain ⟨v1, v2, v3, v4, rfl, h1, h2, h3, h4⟩ := hv.four
  have h1' : Dv F H v1 (.adr s) := h1
  have h2' : Dv F H v2 (kLg l) := h2
  have h3' : Dv F H v3 (kLss ls) := h3
  have h4' : Dv F H v4 (.int time) := h4
  have l1' : l.length ≤ 1000 := l1
  have l2' : ls.length ≤ 1000 := l2
  have t0' : 0 ≤ time := t0
  have t1' : time ≤ 1000000 := t1
  apply s_ifPS j (etp_bool (ec_eqI (ec_draw dr (n := 2) (by wtm_at "ev") (by decide) (by decide)) below_int))
  · intro H2 e2 _
    apply s_retC (C := isSm) e2.j
    · refine EvC.imp (ec_tup (eac_cons (Ev.toC1 ev_str) (eac_cons (C := isInt) (ec_sub (ec_draw dr (n := (ls.length : Nat) + 2) ?_ ?_ ?_) (ec_intB (ec_eqI (ec_draw dr (n := 9) ?_ (by decide) (by decide)) below_int)) below_int (fun _ z => z) fun i k _ _ => ⟨_, rfl⟩) eac_nil)) ?_) ?_
      · rw [← len_map kLs ls]
        wtm_at "ev"
      · omega
      · omega
      · wtm_at "ev"
      · rintro ds ⟨d, r, rfl, _, d2, r2, rfl, _, rfl⟩
        show 2 ≤ 1000
        decide
      · rintro d ⟨ds, rfl, d, r, rfl, rfl, d2, r2, rfl, ⟨i, rfl⟩, rfl⟩
        exact ⟨.lease i, rfl⟩
    · exact fun v H5 d e c hv => kk v H5 d (e2.trans e) c hv
  intro H2 e2 _
  apply s_setCS (C := isInt) e2.j
  · refine ec_sub (ec_draw dr (n := (l.length : Nat) + 2) ?_ ?_ ?_) (ec_intB (ec_eqI (ec_draw dr (n := 9) ?_ (by decide) (by decide)) below_int)) below_int (fun _ z => z) fun i k _ _ => ⟨_, rfl⟩
    · rw [← len_map kCm l]
      wtm_at "ev"
    · omega
    · omega
    · wtm_at "ev"
  rintro v5 H3 d5 e3 ⟨m, rfl⟩ h5
  apply s_setCS (C := isInt) e3.j
  · refine ec_sub (Ev.toC1 (d := .int (time + 1)) ?_) (ec_draw dr (n := time + 3) ?_ ?_ ?_) eq_int below_int fun i k _ _ => ⟨_, rfl⟩
    · wtm_at "ev"
    · wtm_at "ev"
    · omega
    · omega
  rintro v6 H4 d6 e4 ⟨sd, rfl⟩ h6
  have fin : ∀ (v6 : V) (sd : Int) H5, Ext F H H5 → Dv F H5 v6 (.int sd) → Dv F H5 v5 (.int m) → tRet (tTup (tCons (tC (.str "at")) (tCons (tVar 5) (tCons (tVar 4) tNil)))) { nx := fun _ H' => Q .non H', rt := Q } [some v1, some v2, some v3, some v4, some v5, some v6] H5 := by
    intro v6 sd H5 e5 h6 h5
    apply s_ret (d := kS (.at sd m)) e5.j
    · wtm_at "ev"
    · exact fun v H7 e hv => kk v H7 _ (e5.trans e) ⟨.at sd m, rfl⟩ hv
  apply s_ifPS e4.j (P := fun c => c = true → (decide (0 < m) && decide (m ≤ (l.length : Nat))) = true) (etp_and (P := fun _ => True) ?_ ?_)
  · intro H5 e5 hm
    have hm2 := Bool.and_eq_true_iff.mp (hm rfl)
    have m0 : 0 < m := of_decide_eq_true hm2.1
    have m1 : m ≤ (l.length : Nat) := of_decide_eq_true hm2.2
    obtain ⟨c, hat, _, _⟩ := at_cm (l := l) (i := m - 1) (by omega) (by omega)
    apply s_setC (C := isInt) e5.j
    · refine ec_sub (C1 := isInt) (ec_add (Ev.toC1 (d := .int c.1) ?_) (ec_draw dr (n := 3) ?_ (by decide) (by decide)) eq_int below_int fun i k _ _ => ⟨_, rfl⟩) (Ev.toC1 ev_int) (fun _ z => z) eq_int fun i k _ _ => ⟨_, rfl⟩
      · wtm_at "ev"
      · wtm_at "ev"
    · rintro v7 H6 d7 e6 ⟨sd2, rfl⟩ h7
      exact fin v7 sd2 H6 (((((e2.trans e3).trans e4).trans e5).trans e6)) h7 (h5.mono ((e4.trans e5).trans e6))
  · intro H5 e5 _
    exact fin v6 sd H5 ((((e2.trans e3).trans e4).trans e5)) (h6.mono e5) (h5.mono (e4.trans e5))
  · rw [← len_map kCm l]
    wtm_at "ev"
  · exact fun _ => etp_bool (ec_gtI (ec_draw dr (n := 3) (by wtm_at "ev") (by decide) (by decide)) below_int)
end
end Le

namespace Le
open PySem PySem.Spec PyProof.Rows L2
local macro_rules | `(tactic| wtm_at "ev1") => `(tactic| first
  | with_reducible exact ev_int | with_reducible exact ev_str | with_reducible exact ev_bl | with_reducible exact ev_non
  | with_reducible apply ev_var | with_reducible apply ev_op | with_reducible apply ev_chain
  | with_reducible apply ev_and | with_reducible apply ev_or | with_reducible apply ev_not
  | with_reducible apply et_and | with_reducible apply et_or | with_reducible apply et_not | with_reducible apply et_test | with_reducible apply et_B | with_reducible apply et_tru
  | with_reducible apply ev_if
  | with_reducible apply ev_tup | with_reducible apply ev_lst | with_reducible apply ea_cons | with_reducible exact ea_nil | with_reducible apply ev_cb
  | with_reducible exact rv_add | with_reducible exact rv_sub | with_reducible exact rv_lt | with_reducible exact rv_le | with_reducible exact rv_gt | with_reducible exact rv_ge
  | with_reducible exact rv_S | with_reducible exact rv_eqS | with_reducible exact rv_neS | with_reducible exact rv_eqI | with_reducible exact rv_neI | with_reducible exact rv_isN | with_reducible exact rv_notN | with_reducible exact rv_isB
  | with_reducible apply rv_ixT | with_reducible apply rv_ixL
  | with_reducible exact rc_lenL | with_reducible exact rc_lenT | with_reducible exact rc_list | with_reducible exact rc_tuple | with_reducible exact rc_intI | with_reducible exact rc_intB | with_reducible exact rc_min | with_reducible exact rc_max
  | wtm_at "evc"
  | (with_reducible apply dv_id; assumption) | (with_reducible apply dv_mono; assumption) | with_reducible apply dv_pin
  | (with_reducible intro _) | (with_reducible apply at_id; assumption) | exact rfl | (with_reducible apply le_id; exact Nat.le_of_ble_eq_true rfl))
local macro_rules | `(tactic| wtm_at "ev") => `(tactic| repeat' (wtm_at "ev1"))
local macro_rules | `(tactic| wtm_at "jj") => `(tactic| first | assumption | exact Ext.j (by assumption))
local macro_rules | `(tactic| wtm_at "evc") => `(tactic| first | with_reducible apply ev_contains | with_reducible apply ev_includes | with_reducible apply ev_touches | with_reducible apply ev_cover_of | with_reducible apply ev_w_cover_of | with_reducible apply ev_w_within | with_reducible apply ev_w_touches | with_reducible apply ev_least_record | with_reducible apply ev_selected | with_reducible apply ev_w_rows | with_reducible apply ev_ask | with_reducible apply ev_w_ask | with_reducible apply ev_apply | with_reducible apply ev_at | with_reducible apply ev_w_at | with_reducible apply ev_results | with_reducible apply ev_w_results | with_reducible apply ev_is_answer_at | with_reducible apply ev_is_true_at | with_reducible apply ev_is_true | with_reducible apply ev_w_is_true | with_reducible apply ev_supports_newest | with_reducible apply ev_supports | with_reducible apply ev_w_supports | with_reducible apply ev_accepts | with_reducible apply ev_w_accepts | with_reducible apply ev_w_is_right | with_reducible apply ev_w_reach | with_reducible apply ev_w_mix | with_reducible apply ev_w_number | with_reducible apply ev_w_is_integer | with_reducible apply ev_w_tells)
theorem etp_and' {F : Fr} {σ : L2.St} {H : Hp} {tt uu : TT} {b : Bool} {P : Bool → Prop} (h1 : EvT F tt σ H b) (h2 : b = true → EvTP F uu σ H P) : EvTP F (tAnd tt uu) σ H (fun c => c = true → b = true ∧ P true) := fun H1 e Q q => h1 H1 e _ fun H2 e2 => by
  cases b with
  | true => exact iteT (h2 rfl H2 (e.trans e2) Q fun c H3 e3 p => q c H3 (e2.trans e3) fun hc => ⟨rfl, by rw [← hc]; exact p⟩)
  | false => exact iteF (q false H2 e2 fun z => nomatch z)
def Pr.wrd : Pr → Str
  | .any => "any"
  | .newest => "newest"
  | .age _ => "age"
theorem kP_wrd (p : Pr) : ∃ r, kP p = .tup (.str p.wrd :: r) := by
  cases p with
  | any => exact ⟨[], rfl⟩
  | newest => exact ⟨[], rfl⟩
  | age t => exact ⟨[.int t], rfl⟩
theorem imm_isSm (d : D) (h : isSm d) : d.imm = true := by
  obtain ⟨q, rfl⟩ := h
  exact imm_kS q
theorem at0c {d : D} {r : List D} : atI (d :: r) (0 : Int) = some d := by
  have z := atI_nat (xs := d :: r) (j := 0) (v := d) rfl
  exact z
section
variable {P : Program} {w : World} {K : PySem.W.Frag} {mg : Str → Option Value} {base : Heap}
theorem sc_w_evidence : FnScope ["_law_state_here", "_law_ledger", "_law_leases", "_law_time", "_law_read_here", "_law_count", "_law_found", "_law_k", "_law_statement_here"] ["_law_state_here", "_law_ledger", "_law_leases", "_law_time", "_law_read_here"] d_w_evidence.scope := ⟨rfl, rfl, rfl, by decide +kernel, rfl, by decide +kernel, by decide +kernel⟩
theorem g_w_evidence (T : Tx K mg) (G_w_draw : Good P w K mg base 3 "_law_draw" ["_law_state_here", "_law_many"] sp_w_draw) (G_w_statement : Good P w K mg base 4 "_law_statement" ["_law_state_here", "_law_ledger", "_law_leases", "_law_time"] sp_w_statement) : Good P w K mg base 5 "_law_evidence" ["_law_state_here", "_law_ledger", "_law_leases", "_law_time", "_law_read_here"] sp_w_evidence := by
  refine good_def (D_w_evidence T.c) (T.glo _ (F_g_w_evidence T.c)) (fun _ _ _ _ _ _ us hl => match us, hl with | [_, _, _, _, _], _ => rfl) sc_w_evidence (len_C fun _ => rfl) ⟨_, fun f cdv A outer s H E hr =>
    (pss_cons (ps_if (PW.pt (pw_and (pt_cmpR op_eq (pe_ix (k_ix_tup (K := K) rfl) (pe_ix (k_ix_tup (K := K) rfl) (pv 4) pe_int (fun _ _ => rfl)) pe_int (fun _ _ => rfl)) pe_str (nomark _)) (pw_and1 (pt_cmpR op_gt (pe_cG G_w_draw (hr.mono (by decide)) rfl (pa_cons (pv 0) (pa_cons pe_int pa_nil))) pe_int (nomark _))))) (pss_one (ps_ret (pe_lst pa_nil))) pss_nil)
      (pss_cons (ps_set (i := 5) sc_w_evidence.nd rfl (Or.inl rfl) (pe_ifExp (pt_cmpR op_eq (pe_ix (k_ix_tup (K := K) rfl) (pe_ix (k_ix_tup (K := K) rfl) (pv 4) pe_int (fun _ _ => rfl)) pe_int (fun _ _ => rfl)) pe_str (nomark _)) (pe_callB (k_len (K := K) rfl) (by rfl) (T.free _ (F_b_len T.c)) (by decide +kernel) (pa_cons (pe_ix (k_ix_tup (K := K) rfl) (pv 4) pe_int (fun _ _ => rfl)) pa_nil)) pe_int))
      (pss_cons (ps_set (i := 6) sc_w_evidence.nd rfl (Or.inl rfl) (pe_lst pa_nil))
      (pss_cons (ps_for PassesOwn.never rfl (pi_range1 (by rfl) (T.free _ (F_b_range T.c)) (pa_cons (pv 5) pa_nil)) (pg_name (i := 7) sc_w_evidence.nd rfl (Or.inl rfl)) (pss_cons (ps_set (i := 8) sc_w_evidence.nd rfl (Or.inl rfl) (pe_cG G_w_statement hr rfl (pa_cons (pv 0) (pa_cons (pv 1) (pa_cons (pv 2) (pa_cons (pv 3) pa_nil))))))
      (pss_cons (ps_if (PW.pt (pw_and (pt_cmpR op_eq (pe_ix (k_ix_tup (K := K) rfl) (pe_ix (k_ix_tup (K := K) rfl) (pv 4) pe_int (fun _ _ => rfl)) pe_int (fun _ _ => rfl)) pe_str (nomark _)) (pw_and (pt_cmpR op_gt (pe_callB (k_len (K := K) rfl) (by rfl) (T.free _ (F_b_len T.c)) (by decide +kernel) (pa_cons (pv 2) pa_nil)) pe_int (nomark _)) (pw_and1 (pt_cmpR op_gt (pe_cG G_w_draw (hr.mono (by decide)) rfl (pa_cons (pv 0) (pa_cons pe_int pa_nil))) pe_int (nomark _)))))) (pss_one (ps_set (i := 8) sc_w_evidence.nd rfl (Or.inl rfl) (pe_tup (pa_cons pe_str (pa_cons (pe_cG G_w_draw (hr.mono (by decide)) rfl (pa_cons (pv 0) (pa_cons (pe_callB (k_len (K := K) rfl) (by rfl) (T.free _ (F_b_len T.c)) (by decide +kernel) (pa_cons (pv 2) pa_nil)) pa_nil))) pa_nil))))) pss_nil)
      (pss_one (ps_expr (k_bm (K := K) rfl PySem.F.plainAttrs_list PySem.F.slot_list_append PySem.F.type_list_append mt_append (pv 6) (pa_cons (pv 8) pa_nil)))))))
      (pss_cons (ps_if (pt_cmpR op_eq (pe_cG G_w_draw (hr.mono (by decide)) rfl (pa_cons (pv 0) (pa_cons pe_int pa_nil))) pe_int (nomark _)) (pss_one (ps_expr (k_bm (K := K) rfl PySem.F.plainAttrs_list PySem.F.slot_list_append PySem.F.type_list_append mt_append (pv 6) (pa_cons (pe_cG G_w_statement hr rfl (pa_cons (pv 0) (pa_cons (pv 1) (pa_cons (pv 2) (pa_cons (pv 3) pa_nil))))) pa_nil)))) pss_nil)
      (pss_one (ps_ret (pv 6)))))))), ?_⟩
  rintro vs H Q E ⟨F, ⟨s, a, ⟨⟨l, ls, time⟩, rd⟩⟩, j, hv, ⟨dr, llok, qk, ql⟩, kk⟩
  obtain ⟨v1, v2, v3, v4, v5, rfl, h1, h2, h3, h4, h5⟩ := hv.five
  obtain ⟨num, ses, qs, pr⟩ := rd
  obtain ⟨rest, er⟩ := kP_wrd pr
  have h1' : Dv F H v1 (.adr s) := h1
  have h2' : Dv F H v2 (kLg l) := h2
  have h3' : Dv F H v3 (kLss ls) := h3
  have h4' : Dv F H v4 (.int time) := h4
  have h5r : Dv F H v5 (.tup [.int num, .str ses, kQs qs, kP pr]) := h5
  have h5' : Dv F H v5 (.tup [.int num, .str ses, kQs qs, .tup (.str pr.wrd :: rest)]) := by
    rw [← er]
    exact h5r
  have l2' : ls.length ≤ 1000 := llok.2.1
  have ql' : qs.length ≤ 3 := ql
  generalize pr.wrd = wd at *
  apply s_ifPS j (P := fun _ => True) (fun H1 e Q q => etp_and (P := fun _ => True) (b := decide (wd = "any")) ?_ ?_ H1 e Q fun b H2 e2 _ => q b H2 e2 trivial)
  · intro H2 e2 _
    apply s_ret (d := .lst []) e2.j
    · wtm_at "ev"
    · exact fun v H5 e hv => kk v H5 _ (e2.trans e) ⟨[], rfl, Nat.zero_le _⟩ hv
  · intro H2 e2 _
    obtain ⟨n, en, n0, n1⟩ : ∃ n : Int, (if decide (wd = "newest") = true then D.int (qs.length : Nat) else D.int 1) = D.int n ∧ 0 ≤ n ∧ n ≤ 3 := by
      cases decide (wd = "newest") with
      | true => exact ⟨_, if_pos rfl, by omega, by omega⟩
      | false => exact ⟨1, if_neg Bool.false_ne_true, by omega, by omega⟩
    apply s_setS (d := .int n) e2.j
    · rw [← en]
      apply ev_if
      · refine et_test (ev_op (ev_op (d1 := .tup (.str wd :: rest)) ?_ ev_int (rv_ixT at0c)) ev_str rv_eqS)
        wtm_at "ev"
      · intro _
        rw [← len_map kQ qs]
        wtm_at "ev"
      · intro _
        wtm_at "ev"
    intro v6 H3 e3 h6
    refine s_newS e3.j fun p hp jp => ?_
    cases h1'.adr_inv
    have h23 := e2.trans e3
    have h2p := ((h2'.mono h23).add (p := p) (o := .lst []) hp).pin (o := .lst [])
    have h3p := ((h3'.mono h23).add (p := p) (o := .lst []) hp).pin (o := .lst [])
    have h4p := ((h4'.mono h23).add (p := p) (o := .lst []) hp).pin (o := .lst [])
    have h5p := ((h5'.mono h23).add (p := p) (o := .lst []) hp).pin (o := .lst [])
    have h6p := (h6.add (p := p) (o := .lst []) hp).pin (o := .lst [])
    have nU : ¬ F.U p := fun u => F.live e3.j u hp
    have nS : ¬ F.S p := fun s => nU (F.sub s)
    apply s_forRSp (n := n) Le1.pin jp (Pv := fun i σ' H' => ∃ a b xs ev, σ' = [some (.ref s), some v2, some v3, some v4, some v5, some v6, some (.ref p), a, b] ∧ H' p = some (.lst xs) ∧ DvA (F.add p) H' xs (ev.map kS) ∧ List.length ev ≤ i)
    · wtm_at "ev"
    · omega
    · omega
    · intro H4 e4
      exact ⟨none, none, [], [], rfl, e4.at_, .nil, Nat.le_refl _⟩
    · rintro i σ' H' hi e' ⟨xa, xb, xs, ev, rfl, hx, hda, hl⟩
      have jq := pin_j e'.j hx rfl
      have h2q := (h2p.unpin.mono e').pin (o := .lst xs)
      have h3q := (h3p.unpin.mono e').pin (o := .lst xs)
      have h4q := (h4p.unpin.mono e').pin (o := .lst xs)
      have h5q := (h5p.unpin.mono e').pin (o := .lst xs)
      have drq := dr.pin (p := p) (o := .lst xs)
      have hsr : Dv (F.pin p (.lst xs)) H' (.ref s) (.adr s) := .adr s
      have evl : List.length ev ≤ 3 := by omega
      have app : ∀ (v9 : V) (sm : Sm) (H5 : Hp) (x : Option V), Ext (F.pin p (.lst xs)) H' H5 → Dv (F.pin p (.lst xs)) H5 v9 (kS sm) → tDrop (tBM K "list" rAppend (tVar 6) (tCons (tVar 8) tNil)) ⟨fun σ3 H3 => Ext (F.add p) H' H3 ∧ ∃ a b xs ev, σ3 = [some (.ref s), some v2, some v3, some v4, some v5, some v6, some (.ref p), a, b] ∧ H3 p = some (.lst xs) ∧ DvA (F.add p) H3 xs (ev.map kS) ∧ List.length ev ≤ i + 1, fun v H' => Q v H', fun _ _ => False, fun _ _ => False⟩ [some (.ref s), some v2, some v3, some v4, some v5, some v6, some (.ref p), x, some v9] H5 := by
        intro v9 sm H5 x e5 h9
        apply s_app e5.j (d := kS sm) rfl
        · wtm_at "ev"
        · rw [hda.len, List.length_map]
          omega
        · intro v H6 e6 hv
          have tk := tupF (u := .lst (xs ++ [v])) e6.at_ rfl
          refine ⟨(e5.trans e6).put rfl, _, _, _, ev ++ [sm], rfl, upd_same, ?_, by rw [List.length_append]; show List.length ev + 1 ≤ i + 1; omega⟩
          rw [List.map_append]
          exact ((hda.mono (e5.trans e6).unpin).cast tk (immA_map imm_kS _)).snoc (hv.cast tk (imm_kS _))
      apply s_setCS jq (ec_statement drq (l := l) (ls := ls) (time := time) ?_ llok)
      · rintro v9 H5 d9 e5 ⟨sm, rfl⟩ h9
        apply s_ifPS e5.j (etp_and' (b := decide (wd = "newest")) (P := fun c => c = true → decide ((0 : Int) < (ls.length : Nat)) = true ∧ True) ?_ fun _ => etp_and' (P := fun _ => True) ?_ fun _ => etp_bool (ec_gtI (ec_draw drq (n := 4) ?_ (by decide) (by decide)) below_int))
        · intro H6 e6 hb
          have pos : (0 : Int) < (ls.length : Nat) := of_decide_eq_true ((hb rfl).2 rfl).1
          apply s_setC (C := isSm) e6.j
          · refine EvC.imp (ec_tup (eac_cons (Ev.toC1 ev_str) (eac_cons (ec_draw drq (n := (ls.length : Nat)) ?_ ?_ ?_) eac_nil)) ?_) ?_
            · rw [← len_map kLs ls]
              wtm_at "ev"
            · omega
            · omega
            · rintro ds ⟨d, r, rfl, _, d2, r2, rfl, _, rfl⟩
              show 2 ≤ 1000
              decide
            · rintro d ⟨ds, rfl, d, r, rfl, rfl, d2, r2, rfl, ⟨i, rfl, _⟩, rfl⟩
              exact ⟨.lease i, rfl⟩
          · rintro v10 H7 d10 e7 ⟨sm2, rfl⟩ h10
            exact app v10 sm2 H7 _ ((e5.trans e6).trans e7) h10
        · intro H6 e6 _
          exact app v9 sm H6 _ (e5.trans e6) (h9.mono e6)
        · refine et_test (ev_op (ev_op (d1 := .tup (.str wd :: rest)) ?_ ev_int (rv_ixT at0c)) ev_str rv_eqS)
          wtm_at "ev"
        · rw [← len_map kLs ls]
          wtm_at "ev"
        · wtm_at "ev"
      · wtm_at "ev"
    · rintro σ' H' e' ⟨xa, xb, xs, ev, rfl, hx, hda, hl⟩
      have eF : Ext F H H' := h23.trans (Ext.drop' hp e')
      have hsF : Dv F H' (.ref s) (.adr s) := .adr s
      have evl : List.length ev ≤ 3 := by omega
      apply s_ifPS eF.j (etp_bool (ec_eqI (ec_draw dr (n := 8) ?_ (by decide) (by decide)) below_int))
      · intro H5 e5 _
        have jq := pin_j e'.j hx rfl
        have e6 := e5.toPin jq
        have e7 := e'.trans e6.unpin
        have h2q := (h2p.unpin.mono e7).pin (o := .lst xs)
        have h3q := (h3p.unpin.mono e7).pin (o := .lst xs)
        have h4q := (h4p.unpin.mono e7).pin (o := .lst xs)
        have drq := dr.pin (p := p) (o := .lst xs)
        have hsr : Dv (F.pin p (.lst xs)) H5 (.ref s) (.adr s) := .adr s
        apply s_appC e6.j rfl (ec_statement drq (l := l) (ls := ls) (time := time) ?_ llok)
        · rw [hda.len, List.length_map]
          omega
        · rintro v8 H8 d8 e8 ⟨sm, rfl⟩ h8
          have tk := tupF (u := .lst (xs ++ [v8])) e8.at_ rfl
          have hd2 : DvA (F.add p) (upd H8 p (.lst (xs ++ [v8]))) (xs ++ [v8]) ((ev ++ [sm]).map kS) := by
            rw [List.map_append]
            exact ((hda.mono (e6.trans e8).unpin).cast tk (immA_map imm_kS _)).snoc (h8.cast tk (imm_kS _))
          have e9 := e'.trans ((e6.trans e8).put (u := .lst (xs ++ [v8])) rfl)
          show tRet (tVar 6) { nx := fun _ H' => Q .non H', rt := Q } [some (.ref s), some v2, some v3, some v4, some v5, some v6, some (.ref p), xa, xb] _
          apply s_ret (F := F) (d := .lst ((ev ++ [sm]).map kS)) e9.j.1
          · exact ev_var rfl (.lst nS upd_same hd2.sub)
          · intro v H9 e10 hv
            exact kk _ H9 (kSs (ev ++ [sm])) ((h23.trans (Ext.drop' hp e9)).trans e10) ⟨ev ++ [sm], rfl, by rw [List.length_append]; show List.length ev + 1 ≤ 10; omega⟩ hv
        · wtm_at "ev"
      · intro H5 e5 _
        apply s_ret (F := F) (d := .lst (ev.map kS)) e5.j
        · exact ev_var rfl ((Dv.lst nS hx hda.sub).mono e5)
        · intro v H9 e10 hv
          exact kk _ H9 (kSs ev) ((eF.trans e5).trans e10) ⟨ev, rfl, by omega⟩ hv
      · wtm_at "ev"
  · refine et_test (ev_op (ev_op (d1 := .tup (.str wd :: rest)) ?_ ev_int (rv_ixT at0c)) ev_str rv_eqS)
    wtm_at "ev"
  · exact fun _ => etp_bool (ec_gtI (ec_draw dr (n := 3) (by wtm_at "ev") (by decide) (by decide)) below_int)
end
end Le

namespace Le
open PySem PySem.Spec PyProof.Rows L2
local macro_rules | `(tactic| wtm_at "ev1") => `(tactic| first
  | with_reducible exact ev_int | with_reducible exact ev_str | with_reducible exact ev_bl | with_reducible exact ev_non
  | with_reducible apply ev_var | with_reducible apply ev_op | with_reducible apply ev_chain
  | with_reducible apply ev_and | with_reducible apply ev_or | with_reducible apply ev_not
  | with_reducible apply et_and | with_reducible apply et_or | with_reducible apply et_not | with_reducible apply et_test | with_reducible apply et_B | with_reducible apply et_tru
  | with_reducible apply ev_if
  | with_reducible apply ev_tup | with_reducible apply ev_lst | with_reducible apply ea_cons | with_reducible exact ea_nil | with_reducible apply ev_cb
  | with_reducible exact rv_add | with_reducible exact rv_sub | with_reducible exact rv_lt | with_reducible exact rv_le | with_reducible exact rv_gt | with_reducible exact rv_ge
  | with_reducible exact rv_S | with_reducible exact rv_eqS | with_reducible exact rv_neS | with_reducible exact rv_eqI | with_reducible exact rv_neI | with_reducible exact rv_isN | with_reducible exact rv_notN | with_reducible exact rv_isB
  | with_reducible apply rv_ixT | with_reducible apply rv_ixL
  | with_reducible exact rc_lenL | with_reducible exact rc_lenT | with_reducible exact rc_list | with_reducible exact rc_tuple | with_reducible exact rc_intI | with_reducible exact rc_intB | with_reducible exact rc_min | with_reducible exact rc_max
  | wtm_at "evc"
  | (with_reducible apply dv_id; assumption) | (with_reducible apply dv_mono; assumption) | with_reducible apply dv_pin
  | (with_reducible intro _) | (with_reducible apply at_id; assumption) | exact rfl | (with_reducible apply le_id; exact Nat.le_of_ble_eq_true rfl))
local macro_rules | `(tactic| wtm_at "ev") => `(tactic| repeat' (wtm_at "ev1"))
local macro_rules | `(tactic| wtm_at "jj") => `(tactic| first | assumption | exact Ext.j (by assumption))
local macro_rules | `(tactic| wtm_at "evc") => `(tactic| first | with_reducible apply ev_contains | with_reducible apply ev_includes | with_reducible apply ev_touches | with_reducible apply ev_cover_of | with_reducible apply ev_w_cover_of | with_reducible apply ev_w_within | with_reducible apply ev_w_touches | with_reducible apply ev_least_record | with_reducible apply ev_selected | with_reducible apply ev_w_rows | with_reducible apply ev_ask | with_reducible apply ev_w_ask | with_reducible apply ev_apply | with_reducible apply ev_at | with_reducible apply ev_w_at | with_reducible apply ev_results | with_reducible apply ev_w_results | with_reducible apply ev_is_answer_at | with_reducible apply ev_is_true_at | with_reducible apply ev_is_true | with_reducible apply ev_w_is_true | with_reducible apply ev_supports_newest | with_reducible apply ev_supports | with_reducible apply ev_w_supports | with_reducible apply ev_accepts | with_reducible apply ev_w_accepts | with_reducible apply ev_w_is_right | with_reducible apply ev_w_reach | with_reducible apply ev_w_mix | with_reducible apply ev_w_number | with_reducible apply ev_w_is_integer | with_reducible apply ev_w_tells)
structure Wt where
  host : Int
  inc : Int
  num : Int
  gr : Gr
abbrev kWt (w : Wt) : D := .tup [.int w.host, .int w.inc, .int w.num, kG w.gr]
theorem imm_kWt (w : Wt) : (kWt w).imm = true := by
  show (true && (true && (true && ((kG w.gr).imm && true)))) = true
  rw [imm_kG]
  rfl
def kkW (k : Int × Int × Int) : List L2.Key := [.inl k.1, .inl k.2.1, .inl k.2.2]
structure Sto where
  ad : Addr
  dx : Addr
  cm : Addr
  gr : Addr
  wt : Addr
  wr : Addr
  len : Int
  cms : List Cm
  lss : List (Addr × Ls)
  wts : List Wt
  wks : List (Int × Int × Int)
abbrev lsFs (l : Ls) (vo vc : V) (r : Bool) : List (Str × V) := [("owner", vo), ("request", .int l.req), ("cover", vc), ("until", .int l.til), ("moment", .int l.mom), ("time", .int l.tim), ("is_returned", .bl r)]
abbrev stFs (st : Sto) : List (Str × V) := [("host_count", .int 2), ("lease_length", .int st.len), ("commits", .ref st.cm), ("granted", .ref st.gr), ("waiting", .ref st.wt), ("written", .ref st.wr), ("running", .bl true)]
def LsAt (K : PySem.W.Frag) (H : Hp) (a : Addr) (l : Ls) : Prop := ∃ dx vo vc, H a = some (.ins (aLease K) dx (lsFs l vo vc l.ret)) ∧ Dv F0 H vo (.tup [.int l.host, .int l.inc]) ∧ Dv F0 H vc (kC l.cov)
structure StoreAt (K : PySem.W.Frag) (H : Hp) (st : Sto) : Prop where
  ins : H st.ad = some (.ins (aStore K) st.dx (stFs st))
  cm : ∃ xs, H st.cm = some (.lst xs) ∧ DvA F0 H xs (st.cms.map kCm)
  gr : H st.gr = some (.lst (st.lss.map fun p => .ref p.1))
  wt : ∃ xs, H st.wt = some (.lst xs) ∧ DvA F0 H xs (st.wts.map kWt)
  wr : ∃ kvs, H st.wr = some (.dT kvs) ∧ kvs.length ≤ st.wks.length ∧ ∀ p, p ∈ kvs → ∃ k, k ∈ st.wks ∧ p.1 = kkW k
  ls : ∀ p, p ∈ st.lss → LsAt K H p.1 p.2
  n1 : st.cm ≠ st.gr
  n2 : st.cm ≠ st.wt
  n3 : st.gr ≠ st.wt
  nd : (st.ad :: st.lss.map (·.1)).Nodup
def own (st : Sto) (a : Addr) : Prop := a = st.ad ∨ a = st.cm ∨ a = st.gr ∨ a = st.wt ∨ a = st.wr ∨ ∃ l, (a, l) ∈ st.lss
/-- the frame leaves the store alone -/
def Sro (F : Fr) (st : Sto) : Prop := ∀ a, own st a → ¬ F.S a
section
variable {F : Fr} {K : PySem.W.Frag} {mg : Str → Option Value} {σ : L2.St} {H H' H1 : Hp} {ta : TE} {st : Sto} {a : Addr} {l : Ls}
theorem LsAt.keep (h : LsAt K H a l) (k : ∀ o, H a = some o → H' a = some o) (t : ∀ a xs, H a = some (.tup xs) → H' a = some (.tup xs)) : LsAt K H' a l := by
  obtain ⟨dx, vo, vc, h1, h2, h3⟩ := h
  exact ⟨dx, vo, vc, k _ h1, h2.cast t rfl, h3.cast t rfl⟩
theorem LsAt.mono (e : Ext F H H') (hs : ¬ F.S a) (h : LsAt K H a l) : LsAt K H' a l := h.keep (fun o q => e.k a o hs q) e.t
theorem imA {α : Type} {f : α → D} (h : ∀ x, (f x).imm = true) {l : List α} {xs : List V} (d : DvA F0 H xs (l.map f)) (t : ∀ a xs, H a = some (.tup xs) → H' a = some (.tup xs)) : DvA F H' xs (l.map f) := d.cast t (immA_map h l)
theorem StoreAt.keep (h : StoreAt K H st) (k : ∀ a o, own st a → H a = some o → H' a = some o) (t : ∀ a xs, H a = some (.tup xs) → H' a = some (.tup xs)) : StoreAt K H' st where
  ins := k _ _ (Or.inl rfl) h.ins
  cm := by
    obtain ⟨xs, h1, h2⟩ := h.cm
    exact ⟨xs, k _ _ (Or.inr (Or.inl rfl)) h1, imA imm_kCm h2 t⟩
  gr := k _ _ (Or.inr (Or.inr (Or.inl rfl))) h.gr
  wt := by
    obtain ⟨xs, h1, h2⟩ := h.wt
    exact ⟨xs, k _ _ (Or.inr (Or.inr (Or.inr (Or.inl rfl)))) h1, imA imm_kWt h2 t⟩
  wr := by
    obtain ⟨kvs, h1, h2⟩ := h.wr
    exact ⟨kvs, k _ _ (Or.inr (Or.inr (Or.inr (Or.inr (Or.inl rfl))))) h1, h2⟩
  ls := fun p hp => (h.ls p hp).keep (fun o q => k _ _ (Or.inr (Or.inr (Or.inr (Or.inr (Or.inr ⟨p.2, hp⟩))))) q) t
  n1 := h.n1
  n2 := h.n2
  n3 := h.n3
  nd := h.nd
theorem StoreAt.mono (e : Ext F H H') (r : Sro F st) (h : StoreAt K H st) : StoreAt K H' st := h.keep (fun a o ho q => e.k a o (r a ho) q) e.t
theorem StoreAt.live (h : StoreAt K H st) (ho : own st a) : ∃ o, H a = some o ∧ isTup o = false := by
  rcases ho with rfl | rfl | rfl | rfl | rfl | ⟨l, hl⟩
  · exact ⟨_, h.ins, rfl⟩
  · obtain ⟨xs, q, _⟩ := h.cm
    exact ⟨_, q, rfl⟩
  · exact ⟨_, h.gr, rfl⟩
  · obtain ⟨xs, q, _⟩ := h.wt
    exact ⟨_, q, rfl⟩
  · obtain ⟨xs, q, _⟩ := h.wr
    exact ⟨_, q, rfl⟩
  · obtain ⟨dx, vo, vc, q, _⟩ := h.ls _ hl
    exact ⟨_, q, rfl⟩
theorem Sro.F0 : Sro F0 st := fun _ _ z => z
theorem Sro.add {p : Addr} (r : Sro F st) (h : StoreAt K H st) (hp : H p = none) : Sro (F.add p) st := fun a ho z => z.elim (r a ho) fun q => by
  obtain ⟨o, h1, _⟩ := h.live ho
  rw [q, hp] at h1
  cases h1
theorem Sro.pin {p : Addr} {o : HO} (r : Sro (F.add p) st) : Sro (F.pin p o) st := r
theorem cS (T : Tx K mg) : Cls K (aStore K) := He.cls_ok (F_c_Store T.c)
theorem cL (T : Tx K mg) : Cls K (aLease K) := He.cls_ok (F_c_Lease T.c)
/-- the store's fields -/
theorem ev_cms (T : Tx K mg) (h : StoreAt K H st) (r : Sro F st) (ha : Ev F ta σ H (.adr st.ad)) : Ev F (tFld K ta "commits") σ H (kLg st.cms) := by
  obtain ⟨xs, h1, h2⟩ := h.cm
  exact ev_fld ha h.ins (r _ (Or.inl rfl)) (cS T) (He.noat_ok (F_n_S_commits T.c)) rfl (.lst (r _ (Or.inr (Or.inl rfl))) h1 (imA imm_kCm h2 fun _ _ z => z))
theorem dva_adr {p : List (Addr × Ls)} : DvA F H (p.map fun p => .ref p.1) (p.map fun p => D.adr p.1) := by
  induction p with
  | nil => exact .nil
  | cons x r ih => exact .cons (.adr _) ih
theorem ev_grs (T : Tx K mg) (h : StoreAt K H st) (r : Sro F st) (ha : Ev F ta σ H (.adr st.ad)) : Ev F (tFld K ta "granted") σ H (.lst (st.lss.map fun p => .adr p.1)) :=
  ev_fld ha h.ins (r _ (Or.inl rfl)) (cS T) (He.noat_ok (F_n_S_granted T.c)) rfl (.lst (r _ (Or.inr (Or.inr (Or.inl rfl)))) h.gr dva_adr)
theorem ev_wts (T : Tx K mg) (h : StoreAt K H st) (r : Sro F st) (ha : Ev F ta σ H (.adr st.ad)) : Ev F (tFld K ta "waiting") σ H (.lst (st.wts.map kWt)) := by
  obtain ⟨xs, h1, h2⟩ := h.wt
  exact ev_fld ha h.ins (r _ (Or.inl rfl)) (cS T) (He.noat_ok (F_n_S_waiting T.c)) rfl (.lst (r _ (Or.inr (Or.inr (Or.inr (Or.inl rfl))))) h1 (imA imm_kWt h2 fun _ _ z => z))
theorem ev_run (T : Tx K mg) (h : StoreAt K H st) (r : Sro F st) (ha : Ev F ta σ H (.adr st.ad)) : Ev F (tFld K ta "running") σ H (.bl true) :=
  ev_fld ha h.ins (r _ (Or.inl rfl)) (cS T) (He.noat_ok (F_n_S_running T.c)) rfl (.bl _)
theorem ev_hc (T : Tx K mg) (h : StoreAt K H st) (r : Sro F st) (ha : Ev F ta σ H (.adr st.ad)) : Ev F (tFld K ta "host_count") σ H (.int 2) :=
  ev_fld ha h.ins (r _ (Or.inl rfl)) (cS T) (He.noat_ok (F_n_S_host_count T.c)) rfl (.int _)
theorem ev_len (T : Tx K mg) (h : StoreAt K H st) (r : Sro F st) (ha : Ev F ta σ H (.adr st.ad)) : Ev F (tFld K ta "lease_length") σ H (.int st.len) :=
  ev_fld ha h.ins (r _ (Or.inl rfl)) (cS T) (He.noat_ok (F_n_S_lease_length T.c)) rfl (.int _)
/-- a lease's fields -/
theorem ev_own (T : Tx K mg) (h : LsAt K H a l) (hs : ¬ F.S a) (ha : Ev F ta σ H (.adr a)) : Ev F (tFld K ta "owner") σ H (.tup [.int l.host, .int l.inc]) := by
  obtain ⟨dx, vo, vc, h1, h2, h3⟩ := h
  exact ev_fld ha h1 hs (cL T) (He.noat_ok (F_n_L_owner T.c)) rfl (h2.cast (fun _ _ z => z) rfl)
theorem ev_cov (T : Tx K mg) (h : LsAt K H a l) (hs : ¬ F.S a) (ha : Ev F ta σ H (.adr a)) : Ev F (tFld K ta "cover") σ H (kC l.cov) := by
  obtain ⟨dx, vo, vc, h1, h2, h3⟩ := h
  exact ev_fld ha h1 hs (cL T) (He.noat_ok (F_n_L_cover T.c)) rfl (h3.cast (fun _ _ z => z) rfl)
theorem ev_req (T : Tx K mg) (h : LsAt K H a l) (hs : ¬ F.S a) (ha : Ev F ta σ H (.adr a)) : Ev F (tFld K ta "request") σ H (.int l.req) := by
  obtain ⟨dx, vo, vc, h1, h2, h3⟩ := h
  exact ev_fld ha h1 hs (cL T) (He.noat_ok (F_n_L_request T.c)) rfl (.int _)
theorem ev_til (T : Tx K mg) (h : LsAt K H a l) (hs : ¬ F.S a) (ha : Ev F ta σ H (.adr a)) : Ev F (tFld K ta "until") σ H (.int l.til) := by
  obtain ⟨dx, vo, vc, h1, h2, h3⟩ := h
  exact ev_fld ha h1 hs (cL T) (He.noat_ok (F_n_L_until T.c)) rfl (.int _)
theorem ev_mom (T : Tx K mg) (h : LsAt K H a l) (hs : ¬ F.S a) (ha : Ev F ta σ H (.adr a)) : Ev F (tFld K ta "moment") σ H (.int l.mom) := by
  obtain ⟨dx, vo, vc, h1, h2, h3⟩ := h
  exact ev_fld ha h1 hs (cL T) (He.noat_ok (F_n_L_moment T.c)) rfl (.int _)
theorem ev_tim (T : Tx K mg) (h : LsAt K H a l) (hs : ¬ F.S a) (ha : Ev F ta σ H (.adr a)) : Ev F (tFld K ta "time") σ H (.int l.tim) := by
  obtain ⟨dx, vo, vc, h1, h2, h3⟩ := h
  exact ev_fld ha h1 hs (cL T) (He.noat_ok (F_n_L_time T.c)) rfl (.int _)
theorem ev_ret (T : Tx K mg) (h : LsAt K H a l) (hs : ¬ F.S a) (ha : Ev F ta σ H (.adr a)) : Ev F (tFld K ta "is_returned") σ H (.bl l.ret) := by
  obtain ⟨dx, vo, vc, h1, h2, h3⟩ := h
  exact ev_fld ha h1 hs (cL T) (He.noat_ok (F_n_L_is_returned T.c)) rfl (.bl _)
end
def actF (l : Ls) (time : Int) : Bool := !l.ret && decide (time < l.til)
def preL (K : PySem.W.Frag) (F : Fr) (H : Hp) (a : Addr) (l : Ls) : Prop := ¬ F.S a ∧ LsAt K H a l
def preS (K : PySem.W.Frag) (F : Fr) (H : Hp) (st : Sto) : Prop := Sro F st ∧ StoreAt K H st
theorem preL.mono {K : PySem.W.Frag} {F : Fr} {H H' : Hp} {a : Addr} {l : Ls} (e : Ext F H H') (h : preL K F H a l) : preL K F H' a l := ⟨h.1, h.2.mono e h.1⟩
theorem preS.mono {K : PySem.W.Frag} {F : Fr} {H H' : Hp} {st : Sto} (e : Ext F H H') (h : preS K F H st) : preS K F H' st := ⟨h.1, h.2.mono e h.1⟩
theorem preS.ls {K : PySem.W.Frag} {F : Fr} {H : Hp} {st : Sto} (h : preS K F H st) {p : Addr × Ls} (hp : p ∈ st.lss) : preL K F H p.1 p.2 := ⟨h.1 _ (Or.inr (Or.inr (Or.inr (Or.inr (Or.inr ⟨p.2, hp⟩))))), h.2.ls p hp⟩
theorem preS.add {K : PySem.W.Frag} {F : Fr} {H : Hp} {st : Sto} {p : Addr} {o : HO} (h : preS K F H st) (hp : H p = none) : preS K (F.add p) (upd H p o) st := ⟨h.1.add h.2 hp, h.2.keep (fun a x ho q => by
  rw [upd_ne fun z => by rw [z, hp] at q; cases q]
  exact q) fun a xs q => by
  rw [upd_ne fun z => by rw [z, hp] at q; cases q]
  exact q⟩
theorem preS.pin {K : PySem.W.Frag} {F : Fr} {H : Hp} {st : Sto} {p : Addr} {o : HO} (h : preS K (F.add p) H st) : preS K (F.pin p o) H st := h
theorem preS.unpin {K : PySem.W.Frag} {F : Fr} {H : Hp} {st : Sto} {p : Addr} {o : HO} (h : preS K (F.pin p o) H st) : preS K (F.add p) H st := h
def sp_L_is_active (K : PySem.W.Frag) : Sp := SpG (ι := Addr × Ls × Int) (fun F H x => preL K F H x.1 x.2.1) (fun x => [.adr x.1, .int x.2.2]) fun x => .bl (actF x.2.1 x.2.2)
def sp_L_told (K : PySem.W.Frag) : Sp := SpG (ι := Addr × Ls) (fun F H x => preL K F H x.1 x.2) (fun x => [.adr x.1]) fun x => kLs x.2
def sp_S_moment (K : PySem.W.Frag) : Sp := SpG (ι := Sto) (fun F H st => preS K F H st) (fun st => [.adr st.ad]) fun st => .int (st.cms.length : Nat)
def sp_S_ledger (K : PySem.W.Frag) : Sp := SpG (ι := Sto) (fun F H st => preS K F H st) (fun st => [.adr st.ad]) fun st => kLg st.cms
def sp_S_pending (K : PySem.W.Frag) : Sp := SpG (ι := Sto) (fun F H st => preS K F H st) (fun st => [.adr st.ad]) fun st => .lst (st.wts.map kWt)
def sp_S_leases (K : PySem.W.Frag) : Sp := SpG (ι := Sto) (fun F H st => preS K F H st ∧ st.lss.length ≤ 1000) (fun st => [.adr st.ad]) fun st => kLss (st.lss.map (·.2))
def heldF (st : Sto) (g : Gr) (time : Int) : Bool := st.lss.any fun p => actF p.2 time && tch g p.2.cov
def awaitF (st : Sto) (c : Cov) : Bool := st.wts.any fun w => tch w.gr c
def sp_S_is_held_up (K : PySem.W.Frag) : Sp := SpG (ι := Sto × Gr × Int) (fun F H x => preS K F H x.1) (fun x => [.adr x.1.ad, kG x.2.1, .int x.2.2]) fun x => .bl (heldF x.1 x.2.1 x.2.2)
def sp_S_is_awaited (K : PySem.W.Frag) : Sp := SpG (ι := Sto × Cov) (fun F H x => preS K F H x.1) (fun x => [.adr x.1.ad, kC x.2]) fun x => .bl (awaitF x.1 x.2)
/-- some flat tuple -/
def isImm (d : D) : Prop := d.imm = true
def sp_S_note (K : PySem.W.Frag) : Sp := SpC (ι := Sto × Int × Int) (fun F H x => preS K F H x.1 ∧ 1 ≤ x.2.2 ∧ x.2.2 ≤ (x.1.cms.length : Nat)) (fun x => [.adr x.1.ad, .int x.2.1, .int x.2.2]) fun x => isImm
def sp_S_leased (K : PySem.W.Frag) : Sp := SpC (ι := Sto × Int) (fun F H x => preS K F H x.1 ∧ 0 ≤ x.2 ∧ x.2 < (x.1.lss.length : Nat)) (fun x => [.adr x.1.ad, .int x.2]) fun x => isImm
def isLst (n : Nat) (d : D) : Prop := ∃ ds, d = .lst ds ∧ ds.length ≤ n
def sp_S_recalls (K : PySem.W.Frag) : Sp := fun vs H Q _ => ∃ st, ∃ gs : List Gr, ∃ time : Int, ∃ v2, vs = [.ref st.ad, v2, .int time] ∧ Dv F0 H v2 (.lst (gs.map kG)) ∧ StoreAt K H st ∧ st.lss.length ≤ 1000 ∧ gs.length ≤ 1000 ∧
  ∀ p xs H', Same H H' → H p = none → H' p = some (.lst xs) → xs.length ≤ st.lss.length → Q (.ref p) H'
section
variable {F : Fr} {K : PySem.W.Frag} {σ : L2.St} {H : Hp} {ta : TE} {t : TA} {st : Sto} {a : Addr} {l : Ls}
theorem ev_active {time : Int} (h : preL K F H a l) (ha : Ev F ta σ H (.adr a)) (ht : EvA F t σ H [.int time]) : Ev F (tMeth (aLease K) "is_active" (sp_L_is_active K) [] E0 ta t) σ H (.bl (actF l time)) := by
  obtain ⟨dx, vo, vc, h1, _⟩ := h.2
  exact ev_methG (ι := Addr × Ls × Int) (a, l, time) ha h1 h.1 rfl ht rfl (fun _ _ _ _ e z => preL.mono e z) h
theorem ev_told (h : preL K F H a l) (ha : Ev F ta σ H (.adr a)) : Ev F (tMeth (aLease K) "told" (sp_L_told K) [] E0 ta tNil) σ H (kLs l) := by
  obtain ⟨dx, vo, vc, h1, _⟩ := h.2
  exact ev_methG (ι := Addr × Ls) (a, l) ha h1 h.1 rfl ea_nil rfl (fun _ _ _ _ e z => preL.mono e z) h
theorem ev_moment (h : preS K F H st) (ha : Ev F ta σ H (.adr st.ad)) : Ev F (tMeth (aStore K) "moment" (sp_S_moment K) [] E0 ta tNil) σ H (.int (st.cms.length : Nat)) :=
  ev_methG (ι := Sto) st ha h.2.ins (h.1 _ (Or.inl rfl)) rfl ea_nil rfl (fun _ _ _ _ e z => preS.mono e z) h
theorem ev_ledger (h : preS K F H st) (ha : Ev F ta σ H (.adr st.ad)) : Ev F (tMeth (aStore K) "ledger" (sp_S_ledger K) [] E0 ta tNil) σ H (kLg st.cms) :=
  ev_methG (ι := Sto) st ha h.2.ins (h.1 _ (Or.inl rfl)) rfl ea_nil rfl (fun _ _ _ _ e z => preS.mono e z) h
theorem ev_pending (h : preS K F H st) (ha : Ev F ta σ H (.adr st.ad)) : Ev F (tMeth (aStore K) "pending" (sp_S_pending K) [] E0 ta tNil) σ H (.lst (st.wts.map kWt)) :=
  ev_methG (ι := Sto) st ha h.2.ins (h.1 _ (Or.inl rfl)) rfl ea_nil rfl (fun _ _ _ _ e z => preS.mono e z) h
theorem ev_leases (h : preS K F H st) (hl : st.lss.length ≤ 1000) (ha : Ev F ta σ H (.adr st.ad)) : Ev F (tMeth (aStore K) "leases" (sp_S_leases K) [] E0 ta tNil) σ H (kLss (st.lss.map (·.2))) :=
  ev_methG (ι := Sto) st ha h.2.ins (h.1 _ (Or.inl rfl)) rfl ea_nil rfl (fun _ _ _ _ e z => ⟨preS.mono e z.1, z.2⟩) ⟨h, hl⟩
theorem ev_held {g : Gr} {time : Int} (h : preS K F H st) (ha : Ev F ta σ H (.adr st.ad)) (ht : EvA F t σ H [kG g, .int time]) : Ev F (tMeth (aStore K) "is_held_up" (sp_S_is_held_up K) [] E0 ta t) σ H (.bl (heldF st g time)) :=
  ev_methG (ι := Sto × Gr × Int) (st, g, time) ha h.2.ins (h.1 _ (Or.inl rfl)) rfl ht rfl (fun _ _ _ _ e z => preS.mono e z) h
theorem ev_awaited {c : Cov} (h : preS K F H st) (ha : Ev F ta σ H (.adr st.ad)) (ht : EvA F t σ H [kC c]) : Ev F (tMeth (aStore K) "is_awaited" (sp_S_is_awaited K) [] E0 ta t) σ H (.bl (awaitF st c)) :=
  ev_methG (ι := Sto × Cov) (st, c) ha h.2.ins (h.1 _ (Or.inl rfl)) rfl ht rfl (fun _ _ _ _ e z => preS.mono e z) h
theorem ec_note {h n : Int} (p : preS K F H st) (ha : Ev F ta σ H (.adr st.ad)) (ht : EvA F t σ H [.int h, .int n]) (n0 : 1 ≤ n) (n1 : n ≤ (st.cms.length : Nat)) : EvC F (tMeth (aStore K) "note" (sp_S_note K) [] E0 ta t) σ H isImm :=
  ev_methC (ι := Sto × Int × Int) (st, h, n) ha p.2.ins (p.1 _ (Or.inl rfl)) rfl ht rfl (fun _ _ _ _ e z => ⟨preS.mono e z.1, z.2⟩) ⟨p, n0, n1⟩
theorem ec_leased {n : Int} (p : preS K F H st) (ha : Ev F ta σ H (.adr st.ad)) (ht : EvA F t σ H [.int n]) (n0 : 0 ≤ n) (n1 : n < (st.lss.length : Nat)) : EvC F (tMeth (aStore K) "leased" (sp_S_leased K) [] E0 ta t) σ H isImm :=
  ev_methC (ι := Sto × Int) (st, n) ha p.2.ins (p.1 _ (Or.inl rfl)) rfl ht rfl (fun _ _ _ _ e z => ⟨preS.mono e z.1, z.2⟩) ⟨p, n0, n1⟩
end
end Le

namespace Le
open PySem PySem.Spec PyProof.Rows L2
local macro_rules | `(tactic| wtm_at "ev1") => `(tactic| first
  | with_reducible exact ev_int | with_reducible exact ev_str | with_reducible exact ev_bl | with_reducible exact ev_non
  | with_reducible apply ev_var | with_reducible apply ev_op | with_reducible apply ev_chain
  | with_reducible apply ev_and | with_reducible apply ev_or | with_reducible apply ev_not
  | with_reducible apply et_and | with_reducible apply et_or | with_reducible apply et_not | with_reducible apply et_test | with_reducible apply et_B | with_reducible apply et_tru
  | with_reducible apply ev_if
  | with_reducible apply ev_tup | with_reducible apply ev_lst | with_reducible apply ea_cons | with_reducible exact ea_nil | with_reducible apply ev_cb
  | with_reducible exact rv_add | with_reducible exact rv_sub | with_reducible exact rv_lt | with_reducible exact rv_le | with_reducible exact rv_gt | with_reducible exact rv_ge
  | with_reducible exact rv_S | with_reducible exact rv_eqS | with_reducible exact rv_neS | with_reducible exact rv_eqI | with_reducible exact rv_neI | with_reducible exact rv_isN | with_reducible exact rv_notN | with_reducible exact rv_isB
  | with_reducible apply rv_ixT | with_reducible apply rv_ixL
  | with_reducible exact rc_lenL | with_reducible exact rc_lenT | with_reducible exact rc_list | with_reducible exact rc_tuple | with_reducible exact rc_intI | with_reducible exact rc_intB | with_reducible exact rc_min | with_reducible exact rc_max
  | wtm_at "evc"
  | (with_reducible apply dv_id; assumption) | (with_reducible apply dv_mono; assumption) | with_reducible apply dv_pin
  | (with_reducible intro _) | (with_reducible apply at_id; assumption) | exact rfl | (with_reducible apply le_id; exact Nat.le_of_ble_eq_true rfl))
local macro_rules | `(tactic| wtm_at "ev") => `(tactic| repeat' (wtm_at "ev1"))
local macro_rules | `(tactic| wtm_at "jj") => `(tactic| first | assumption | exact Ext.j (by assumption))
local macro_rules | `(tactic| wtm_at "evc") => `(tactic| first | with_reducible apply ev_contains | with_reducible apply ev_includes | with_reducible apply ev_touches | with_reducible apply ev_cover_of | with_reducible apply ev_w_cover_of | with_reducible apply ev_w_within | with_reducible apply ev_w_touches | with_reducible apply ev_least_record | with_reducible apply ev_selected | with_reducible apply ev_w_rows | with_reducible apply ev_ask | with_reducible apply ev_w_ask | with_reducible apply ev_apply | with_reducible apply ev_at | with_reducible apply ev_w_at | with_reducible apply ev_results | with_reducible apply ev_w_results | with_reducible apply ev_is_answer_at | with_reducible apply ev_is_true_at | with_reducible apply ev_is_true | with_reducible apply ev_w_is_true | with_reducible apply ev_supports_newest | with_reducible apply ev_supports | with_reducible apply ev_w_supports | with_reducible apply ev_accepts | with_reducible apply ev_w_accepts | with_reducible apply ev_w_is_right | with_reducible apply ev_w_reach | with_reducible apply ev_w_mix | with_reducible apply ev_w_number | with_reducible apply ev_w_is_integer | with_reducible apply ev_w_tells)
section
variable {P : Program} {w : World} {K : PySem.W.Frag} {mg : Str → Option Value} {base : Heap}
theorem sc_L_is_active : FnScope ["self", "time"] ["self", "time"] d_L_is_active.scope := ⟨rfl, rfl, rfl, by decide +kernel, rfl, by decide +kernel, by decide +kernel⟩
theorem g_L_is_active (T : Tx K mg)  : GoodM P w K mg base 1 (aLease K) "is_active" ["self", "time"] (sp_L_is_active K) := by
  refine good_meth (C := "Lease") (He.cls_ok (F_c_Lease T.c)) (D_L_is_active T.c) (He.meth_ok (F_m_L_is_active T.c)) (fun _ _ _ _ _ _ us hl => match us, hl with | [_, _], _ => rfl) sc_L_is_active (len_G fun _ => rfl) ⟨_, fun f cdv A outer s H E hr =>
    (pss_one (ps_ret (pe_and (pe_not (k_fld (K := K) rfl (pv 0) rfl)) (pe_one (pe_cmpR op_lt (pv 1) (k_fld (K := K) rfl (pv 0) rfl) (nomark _)))))), ?_⟩
  rintro vs H Q E ⟨F, ⟨a, l, time⟩, j, hv, ⟨ns, la⟩, kk⟩
  obtain ⟨v1, v2, rfl, h1, h2⟩ := hv.two
  have h1' : Dv F H v1 (.adr a) := h1
  have h2' : Dv F H v2 (.int time) := h2
  have va : Ev F (tVar 0) (L2.start ["self", "time"] [v1, v2]) H (.adr a) := ev_var rfl h1'
  apply s_ret (d := .bl (!l.ret && decide (time < l.til))) j
  · apply ev_and
    · exact ev_not (ev_ret T la ns va)
    · intro _
      exact ev_op (ev_var rfl h2') (ev_til T la ns va) rv_lt
  · exact kk
theorem sc_L_told : FnScope ["self", "host", "incarnation"] ["self"] d_L_told.scope := ⟨rfl, rfl, rfl, by decide +kernel, rfl, by decide +kernel, by decide +kernel⟩
theorem g_L_told (T : Tx K mg)  : GoodM P w K mg base 1 (aLease K) "told" ["self"] (sp_L_told K) := by
  refine good_meth (C := "Lease") (He.cls_ok (F_c_Lease T.c)) (D_L_told T.c) (He.meth_ok (F_m_L_told T.c)) (fun _ _ _ _ _ _ us hl => match us, hl with | [_], _ => rfl) sc_L_told (len_G fun _ => rfl) ⟨_, fun f cdv A outer s H E hr =>
    (pss_cons (ps_asg (k_fld (K := K) rfl (pv 0) rfl) (k_pg_tup (K := K) (n := 2) rfl rfl (pgs_cons (pg_name (i := 1) sc_L_told.nd rfl (Or.inl rfl)) (pgs_cons (pg_name (i := 2) sc_L_told.nd rfl (Or.inl rfl)) pgs_nil))))
      (pss_one (ps_ret (pe_tup (pa_cons (pv 1) (pa_cons (pv 2) (pa_cons (k_fld (K := K) rfl (pv 0) rfl) (pa_cons (k_fld (K := K) rfl (pv 0) rfl) (pa_cons (k_fld (K := K) rfl (pv 0) rfl) (pa_cons (k_fld (K := K) rfl (pv 0) rfl) (pa_cons (k_fld (K := K) rfl (pv 0) rfl) (pa_cons (k_fld (K := K) rfl (pv 0) rfl) pa_nil)))))))))))), ?_⟩
  rintro vs H Q E ⟨F, ⟨a, l⟩, j, hv, ⟨ns, la⟩, kk⟩
  obtain ⟨v1, rfl, h1⟩ := hv.one
  have h1' : Dv F H v1 (.adr a) := h1
  apply s_asgS j (ev_own T la ns (ev_var rfl h1'))
  intro v H2 e2 hv2
  refine g_unp2 hv2 fun w1 w2 hw1 hw2 => ?_
  have va : Ev F (tVar 0) (((L2.start ["self", "host", "incarnation"] [v1]).set 1 (some w1)).set 2 (some w2)) H2 (.adr a) := ev_var rfl (h1'.mono e2)
  have lb := LsAt.mono e2 ns la
  apply s_ret (d := kLs l) e2.j
  · refine ev_tup (ea_cons (ev_var rfl hw1) (ea_cons (ev_var rfl hw2) (ea_cons (ev_req T lb ns va) (ea_cons (ev_cov T lb ns va) (ea_cons (ev_til T lb ns va) (ea_cons (ev_mom T lb ns va) (ea_cons (ev_tim T lb ns va) (ea_cons (ev_ret T lb ns va) ea_nil)))))))) ?_
    show 8 ≤ 100000
    decide
  · exact fun v H5 e hv => kk v H5 (e2.trans e) hv
theorem sc_S_moment : FnScope ["self"] ["self"] d_S_moment.scope := ⟨rfl, rfl, rfl, by decide +kernel, rfl, by decide +kernel, by decide +kernel⟩
theorem g_S_moment (T : Tx K mg)  : GoodM P w K mg base 1 (aStore K) "moment" ["self"] (sp_S_moment K) := by
  refine good_meth (C := "Store") (He.cls_ok (F_c_Store T.c)) (D_S_moment T.c) (He.meth_ok (F_m_S_moment T.c)) (fun _ _ _ _ _ _ us hl => match us, hl with | [_], _ => rfl) sc_S_moment (len_G fun _ => rfl) ⟨_, fun f cdv A outer s H E hr =>
    (pss_one (ps_ret (pe_callB (k_len (K := K) rfl) (by rfl) (T.free _ (F_b_len T.c)) (by decide +kernel) (pa_cons (k_fld (K := K) rfl (pv 0) rfl) pa_nil)))), ?_⟩
  rintro vs H Q E ⟨F, st, j, hv, ⟨r, sa⟩, kk⟩
  obtain ⟨v1, rfl, h1⟩ := hv.one
  have h1' : Dv F H v1 (.adr st.ad) := h1
  apply s_ret (d := .int (st.cms.length : Nat)) j
  · refine ev_cb (ea_cons (ev_cms T sa r (ev_var rfl h1')) ea_nil) ?_
    rw [← len_map kCm st.cms]
    exact rc_lenL
  · exact kk
theorem sc_S_ledger : FnScope ["self"] ["self"] d_S_ledger.scope := ⟨rfl, rfl, rfl, by decide +kernel, rfl, by decide +kernel, by decide +kernel⟩
theorem g_S_ledger (T : Tx K mg)  : GoodM P w K mg base 1 (aStore K) "ledger" ["self"] (sp_S_ledger K) := by
  refine good_meth (C := "Store") (He.cls_ok (F_c_Store T.c)) (D_S_ledger T.c) (He.meth_ok (F_m_S_ledger T.c)) (fun _ _ _ _ _ _ us hl => match us, hl with | [_], _ => rfl) sc_S_ledger (len_G fun _ => rfl) ⟨_, fun f cdv A outer s H E hr =>
    (pss_one (ps_ret (pe_callTy (k_list (K := K) rfl) (by rfl) (T.free _ (F_b_list T.c)) (by decide +kernel) (pa_cons (k_fld (K := K) rfl (pv 0) rfl) pa_nil)))), ?_⟩
  rintro vs H Q E ⟨F, st, j, hv, ⟨r, sa⟩, kk⟩
  obtain ⟨v1, rfl, h1⟩ := hv.one
  have h1' : Dv F H v1 (.adr st.ad) := h1
  apply s_ret (d := kLg st.cms) j
  · exact ev_cb (ea_cons (ev_cms T sa r (ev_var rfl h1')) ea_nil) rc_list
  · exact kk
theorem sc_S_pending : FnScope ["self"] ["self"] d_S_pending.scope := ⟨rfl, rfl, rfl, by decide +kernel, rfl, by decide +kernel, by decide +kernel⟩
theorem g_S_pending (T : Tx K mg)  : GoodM P w K mg base 1 (aStore K) "pending" ["self"] (sp_S_pending K) := by
  refine good_meth (C := "Store") (He.cls_ok (F_c_Store T.c)) (D_S_pending T.c) (He.meth_ok (F_m_S_pending T.c)) (fun _ _ _ _ _ _ us hl => match us, hl with | [_], _ => rfl) sc_S_pending (len_G fun _ => rfl) ⟨_, fun f cdv A outer s H E hr =>
    (pss_one (ps_ret (pe_callTy (k_list (K := K) rfl) (by rfl) (T.free _ (F_b_list T.c)) (by decide +kernel) (pa_cons (k_fld (K := K) rfl (pv 0) rfl) pa_nil)))), ?_⟩
  rintro vs H Q E ⟨F, st, j, hv, ⟨r, sa⟩, kk⟩
  obtain ⟨v1, rfl, h1⟩ := hv.one
  have h1' : Dv F H v1 (.adr st.ad) := h1
  apply s_ret (d := .lst (st.wts.map kWt)) j
  · exact ev_cb (ea_cons (ev_wts T sa r (ev_var rfl h1')) ea_nil) rc_list
  · exact kk
theorem sc_S_leases : FnScope ["self", "lease"] ["self"] d_S_leases.scope := ⟨rfl, rfl, rfl, by decide +kernel, rfl, by decide +kernel, by decide +kernel⟩
theorem g_S_leases (T : Tx K mg) (G_L_told : GoodM P w K mg base 1 (aLease K) "told" ["self"] (sp_L_told K)) : GoodM P w K mg base 2 (aStore K) "leases" ["self"] (sp_S_leases K) := by
  refine good_meth (C := "Store") (He.cls_ok (F_c_Store T.c)) (D_S_leases T.c) (He.meth_ok (F_m_S_leases T.c)) (fun _ _ _ _ _ _ us hl => match us, hl with | [_], _ => rfl) sc_S_leases (len_G fun _ => rfl) ⟨_, fun f cdv A outer s H E hr =>
    (pss_one (ps_ret (pe_lc (own := [("lease", 1)]) (g := gName 1) (tt := tYes) rfl sc_S_leases.nd (k_pi_list (K := K) rfl (k_fld (K := K) rfl (pv 0) rfl)) (blkOk_by (own := [("lease", 1)]) (N := ["self", "lease"]) (sc := d_S_leases.scope) (by decide +kernel)) (fun _ _ _ _ _ => pg_name (i := 1) sc_S_leases.nd rfl (Or.inl rfl)) (fun _ _ _ _ _ => pts_nil) (fun _ _ _ _ _ => (pe_m0G G_L_told hr (pv 1)))))), ?_⟩
  rintro vs H Q E ⟨F, st, j, hv, ⟨⟨r, sa⟩, hl⟩, kk⟩
  obtain ⟨v1, rfl, h1⟩ := hv.one
  have h1' : Dv F H v1 (.adr st.ad) := h1
  have hl' : st.lss.length ≤ 1000 := hl
  apply s_retK (d1 := .lst (st.lss.map fun p => kLs p.2)) j
  · refine (ev_lcM (ws := st.lss) (enc := fun p => .adr p.1) (ev_grs T sa r (ev_var rfl h1')) (fun p => kLs p.2) (fun _ _ => rfl) (by omega) ?_).toEv
    intro i p v H' hi e' hv
    refine ⟨_, fun Q q => q, rfl, ?_⟩
    have pl := preL.mono e' (preS.ls ⟨r, sa⟩ (List.mem_of_getElem? hi))
    exact ev_told pl (ev_var rfl hv)
  · exact kk
  · show D.lst _ = D.lst ((st.lss.map (·.2)).map kLs)
    rw [List.map_map]
    rfl
theorem sc_S_leased : FnScope ["self", "index", "lease", "host", "incarnation"] ["self", "index"] d_S_leased.scope := ⟨rfl, rfl, rfl, by decide +kernel, rfl, by decide +kernel, by decide +kernel⟩
theorem g_S_leased (T : Tx K mg)  : GoodM P w K mg base 1 (aStore K) "leased" ["self", "index"] (sp_S_leased K) := by
  refine good_meth (C := "Store") (He.cls_ok (F_c_Store T.c)) (D_S_leased T.c) (He.meth_ok (F_m_S_leased T.c)) (fun _ _ _ _ _ _ us hl => match us, hl with | [_, _], _ => rfl) sc_S_leased (len_C fun _ => rfl) ⟨_, fun f cdv A outer s H E hr =>
    (pss_cons (ps_set (i := 2) sc_S_leased.nd rfl (Or.inl rfl) (pe_ix (k_ix_list (K := K) rfl) (k_fld (K := K) rfl (pv 0) rfl) (pv 1) (fun _ _ => rfl)))
      (pss_cons (ps_asg (k_fld (K := K) rfl (pv 2) rfl) (k_pg_tup (K := K) (n := 2) rfl rfl (pgs_cons (pg_name (i := 3) sc_S_leased.nd rfl (Or.inl rfl)) (pgs_cons (pg_name (i := 4) sc_S_leased.nd rfl (Or.inl rfl)) pgs_nil))))
      (pss_one (ps_ret (pe_tup (pa_cons pe_str (pa_cons (pv 3) (pa_cons (pv 4) (pa_cons (k_fld (K := K) rfl (pv 2) rfl) (pa_cons (pv 1) (pa_cons (k_fld (K := K) rfl (pv 2) rfl) (pa_cons (k_fld (K := K) rfl (pv 2) rfl) (pa_cons (k_fld (K := K) rfl (pv 2) rfl) (pa_cons (k_fld (K := K) rfl (pv 2) rfl) pa_nil)))))))))))))), ?_⟩
  rintro vs H Q E ⟨F, ⟨st, n⟩, j, hv, ⟨⟨r, sa⟩, n0, n1⟩, kk⟩
  obtain ⟨v1, v2, rfl, h1, h2⟩ := hv.two
  have h1' : Dv F H v1 (.adr st.ad) := h1
  have h2' : Dv F H v2 (.int n) := h2
  obtain ⟨p, hp⟩ := some_at (l := st.lss) n0 n1
  have pm := List.mem_of_getElem? hp
  apply s_setS (d := .adr p.1) j
  · exact ev_op (ev_grs T sa r (ev_var rfl h1')) (ev_var rfl h2') (rv_ixL (atI_map (f := fun p : Addr × Ls => D.adr p.1) n0 hp))
  intro v3 H3 e3 h3
  obtain ⟨ns, lb⟩ := preL.mono e3 (preS.ls ⟨r, sa⟩ pm)
  apply s_asgS e3.j (ev_own T lb ns (ev_var rfl h3))
  intro v H2 e2 hv2
  refine g_unp2 hv2 fun w1 w2 hw1 hw2 => ?_
  have va : Ev F (tVar 2) ((((L2.start ["self", "index", "lease", "host", "incarnation"] [v1, v2]).set 2 (some v3)).set 3 (some w1)).set 4 (some w2)) H2 (.adr p.1) := ev_var rfl (h3.mono e2)
  have lc := LsAt.mono e2 ns lb
  apply s_ret (d := .tup [.str "leased", .int p.2.host, .int p.2.inc, .int p.2.req, .int n, kC p.2.cov, .int p.2.til, .int p.2.mom, .int p.2.tim]) e2.j
  · refine ev_tup (ea_cons ev_str (ea_cons (ev_var rfl hw1) (ea_cons (ev_var rfl hw2) (ea_cons (ev_req T lc ns va) (ea_cons (ev_var rfl (h2'.mono (e3.trans e2))) (ea_cons (ev_cov T lc ns va) (ea_cons (ev_til T lc ns va) (ea_cons (ev_mom T lc ns va) (ea_cons (ev_tim T lc ns va) ea_nil))))))))) ?_
    show 9 ≤ 100000
    decide
  · exact fun v H5 e hv => kk v H5 _ ((e3.trans e2).trans e) (show D.imm (.tup [.str "leased", .int p.2.host, .int p.2.inc, .int p.2.req, .int n, kC p.2.cov, .int p.2.til, .int p.2.mom, .int p.2.tim]) = true from rfl) hv
theorem sc_S_note : FnScope ["self", "host", "number", "time", "group"] ["self", "host", "number"] d_S_note.scope := ⟨rfl, rfl, rfl, by decide +kernel, rfl, by decide +kernel, by decide +kernel⟩
theorem g_S_note (T : Tx K mg)  : GoodM P w K mg base 1 (aStore K) "note" ["self", "host", "number"] (sp_S_note K) := by
  refine good_meth (C := "Store") (He.cls_ok (F_c_Store T.c)) (D_S_note T.c) (He.meth_ok (F_m_S_note T.c)) (fun _ _ _ _ _ _ us hl => match us, hl with | [_, _, _], _ => rfl) sc_S_note (len_C fun _ => rfl) ⟨_, fun f cdv A outer s H E hr =>
    (pss_cons (ps_asg (pe_ix (k_ix_list (K := K) rfl) (k_fld (K := K) rfl (pv 0) rfl) (pe_op op_sub (pv 2) pe_int) (fun _ _ => rfl)) (k_pg_tup (K := K) (n := 2) rfl rfl (pgs_cons (pg_name (i := 3) sc_S_note.nd rfl (Or.inl rfl)) (pgs_cons (pg_name (i := 4) sc_S_note.nd rfl (Or.inl rfl)) pgs_nil))))
      (pss_one (ps_ret (pe_tup (pa_cons pe_str (pa_cons (pv 1) (pa_cons (pv 2) (pa_cons (pv 3) (pa_cons (pv 4) pa_nil))))))))), ?_⟩
  rintro vs H Q E ⟨F, ⟨st, h, n⟩, j, hv, ⟨⟨r, sa⟩, n0, n1⟩, kk⟩
  obtain ⟨v1, v2, v3, rfl, h1, h2, h3⟩ := hv.three
  have h1' : Dv F H v1 (.adr st.ad) := h1
  have h2' : Dv F H v2 (.int h) := h2
  have h3' : Dv F H v3 (.int n) := h3
  have n0' : 1 ≤ n := n0
  have n1' : n ≤ (st.cms.length : Nat) := n1
  obtain ⟨c, hat, _, _⟩ := at_cm (l := st.cms) (i := n - 1) (by omega) (by omega)
  apply s_asgS (d := kCm c) j
  · exact ev_op (ev_cms T sa r (ev_var rfl h1')) (ev_op (ev_var rfl h3') ev_int rv_sub) (rv_ixL hat)
  intro v H2 e2 hv2
  refine g_unp2 hv2 fun w1 w2 hw1 hw2 => ?_
  have h2'' := h2'.mono e2
  have h3'' := h3'.mono e2
  apply s_ret (d := .tup [.str "note", .int h, .int n, .int c.1, kG c.2]) e2.j
  · wtm_at "ev"
  · refine fun v H5 e hv => kk v H5 _ (e2.trans e) ?_ hv
    show (true && (true && (true && (true && ((kG c.2).imm && true))))) = true
    rw [imm_kG]
    rfl
theorem sc_S_is_held_up : FnScope ["self", "group", "time", "lease"] ["self", "group", "time"] d_S_is_held_up.scope := ⟨rfl, rfl, rfl, by decide +kernel, rfl, by decide +kernel, by decide +kernel⟩
theorem g_S_is_held_up (T : Tx K mg) (G_touches : Good P w K mg base 2 "touches" ["group", "cover"] sp_touches) (G_L_is_active : GoodM P w K mg base 1 (aLease K) "is_active" ["self", "time"] (sp_L_is_active K)) : GoodM P w K mg base 3 (aStore K) "is_held_up" ["self", "group", "time"] (sp_S_is_held_up K) := by
  refine good_meth (C := "Store") (He.cls_ok (F_c_Store T.c)) (D_S_is_held_up T.c) (He.meth_ok (F_m_S_is_held_up T.c)) (fun _ _ _ _ _ _ us hl => match us, hl with | [_, _, _], _ => rfl) sc_S_is_held_up (len_G fun _ => rfl) ⟨_, fun f cdv A outer s H E hr =>
    (pss_cons (ps_for PassesOwn.never rfl (k_pi_list (K := K) rfl (k_fld (K := K) rfl (pv 0) rfl)) (pg_name (i := 3) sc_S_is_held_up.nd rfl (Or.inl rfl)) (pss_one (ps_if (PW.pt (pw_and (pt_val (pe_mG G_L_is_active (hr.mono (by decide)) (pv 3) (pa_cons (pv 2) pa_nil))) (pw_and1 (pt_val (pe_cG G_touches hr rfl (pa_cons (pv 1) (pa_cons (k_fld (K := K) rfl (pv 3) rfl) pa_nil))))))) (pss_one (ps_ret pe_bl)) pss_nil)))
      (pss_one (ps_ret pe_bl))), ?_⟩
  rintro vs H Q E ⟨F, ⟨st, g, time⟩, j, hv, ⟨r, sa⟩, kk⟩
  obtain ⟨v1, v2, v3, rfl, h1, h2, h3⟩ := hv.three
  have h1' : Dv F H v1 (.adr st.ad) := h1
  have h2' : Dv F H v2 (kG g) := h2
  have h3' : Dv F H v3 (.int time) := h3
  apply s_forLS (F := F) j (ev_grs T sa r (ev_var rfl h1')) (Pv := fun i σ' H' => ∃ b, σ' = [some v1, some v2, some v3, b] ∧ ∀ p, p ∈ st.lss.take i → (actF p.2 time && tch g p.2.cov) = false)
  · exact fun H2 e2 => ⟨none, rfl, fun p hp => by cases hp⟩
  · rintro i d v σ' H' hi e' ⟨b, rfl, hall⟩ hv
    rw [List.getElem?_map] at hi
    obtain ⟨p, hp, rfl⟩ := Option.map_eq_some_iff.mp hi
    have pm := List.mem_of_getElem? hp
    have pl := preL.mono e' (preS.ls ⟨r, sa⟩ pm)
    have hv' : Dv F H' v (.adr p.1) := hv
    have g2 := h2'.mono e'
    have g3 := h3'.mono e'
    apply s_ifN e'.j (b := actF p.2 time && tch g p.2.cov) (σ := [some v1, some v2, some v3, some v])
    · apply et_and
      · apply et_B
        refine ev_active pl (ev_var rfl hv') ?_
        wtm_at "ev"
      · intro _
        apply et_B
        refine ev_touches (ea_cons (ev_var rfl g2) (ea_cons (ev_cov T pl.2 pl.1 (ev_var rfl hv')) ea_nil))
    · intro hb H2 e2
      apply s_retK e2.j
      · wtm_at "ev"
      · exact fun v H5 e hv => kk v H5 ((e'.trans e2).trans e) hv
      · show D.bl true = D.bl (heldF st g time)
        have z : heldF st g time = true := List.any_eq_true.mpr ⟨p, pm, hb⟩
        rw [z]
    · intro hb H2 e2
      refine ⟨e2, _, rfl, fun q hq => ?_⟩
      rw [List.take_succ, hp] at hq
      rcases List.mem_append.mp hq with z | z
      · exact hall q z
      · have z2 : q = p := by simpa using z
        rw [z2]
        exact hb
  · rintro σ' H' e' ⟨b, rfl, hall⟩
    apply s_retK e'.j
    · wtm_at "ev"
    · exact fun v H5 e hv => kk v H5 (e'.trans e) hv
    · show D.bl false = D.bl (heldF st g time)
      have z : heldF st g time = false := List.any_eq_false.mpr fun p hp => by
        rw [List.length_map, List.take_length] at hall
        rw [hall p hp]
        decide
      rw [z]
theorem sc_S_is_awaited : FnScope ["self", "cover", "waiting"] ["self", "cover"] d_S_is_awaited.scope := ⟨rfl, rfl, rfl, by decide +kernel, rfl, by decide +kernel, by decide +kernel⟩
theorem g_S_is_awaited (T : Tx K mg) (G_touches : Good P w K mg base 2 "touches" ["group", "cover"] sp_touches) : GoodM P w K mg base 3 (aStore K) "is_awaited" ["self", "cover"] (sp_S_is_awaited K) := by
  refine good_meth (C := "Store") (He.cls_ok (F_c_Store T.c)) (D_S_is_awaited T.c) (He.meth_ok (F_m_S_is_awaited T.c)) (fun _ _ _ _ _ _ us hl => match us, hl with | [_, _], _ => rfl) sc_S_is_awaited (len_G fun _ => rfl) ⟨_, fun f cdv A outer s H E hr =>
    (pss_cons (ps_for PassesOwn.never rfl (k_pi_list (K := K) rfl (k_fld (K := K) rfl (pv 0) rfl)) (pg_name (i := 2) sc_S_is_awaited.nd rfl (Or.inl rfl)) (pss_one (ps_if (pt_val (pe_cG G_touches hr rfl (pa_cons (pe_ix (k_ix_tup (K := K) rfl) (pv 2) pe_int (fun _ _ => rfl)) (pa_cons (pv 1) pa_nil)))) (pss_one (ps_ret pe_bl)) pss_nil)))
      (pss_one (ps_ret pe_bl))), ?_⟩
  rintro vs H Q E ⟨F, ⟨st, c⟩, j, hv, ⟨r, sa⟩, kk⟩
  obtain ⟨v1, v2, rfl, h1, h2⟩ := hv.two
  have h1' : Dv F H v1 (.adr st.ad) := h1
  have h2' : Dv F H v2 (kC c) := h2
  apply s_forLS (F := F) j (ev_wts T sa r (ev_var rfl h1')) (Pv := fun i σ' H' => ∃ b, σ' = [some v1, some v2, b] ∧ ∀ p, p ∈ st.wts.take i → tch p.gr c = false)
  · exact fun H2 e2 => ⟨none, rfl, fun p hp => by cases hp⟩
  · rintro i d v σ' H' hi e' ⟨b, rfl, hall⟩ hv
    rw [List.getElem?_map] at hi
    obtain ⟨p, hp, rfl⟩ := Option.map_eq_some_iff.mp hi
    have pm := List.mem_of_getElem? hp
    have hv' : Dv F H' v (.tup [.int p.host, .int p.inc, .int p.num, kG p.gr]) := hv
    have g2 := h2'.mono e'
    apply s_ifN e'.j (b := tch p.gr c) (σ := [some v1, some v2, some v])
    · apply et_B
      wtm_at "ev"
    · intro hb H2 e2
      apply s_retK e2.j
      · wtm_at "ev"
      · exact fun v H5 e hv => kk v H5 ((e'.trans e2).trans e) hv
      · show D.bl true = D.bl (awaitF st c)
        have z : awaitF st c = true := List.any_eq_true.mpr ⟨p, pm, hb⟩
        rw [z]
    · intro hb H2 e2
      refine ⟨e2, _, rfl, fun q hq => ?_⟩
      rw [List.take_succ, hp] at hq
      rcases List.mem_append.mp hq with z | z
      · exact hall q z
      · have z2 : q = p := by simpa using z
        rw [z2]
        exact hb
  · rintro σ' H' e' ⟨b, rfl, hall⟩
    apply s_retK e'.j
    · wtm_at "ev"
    · exact fun v H5 e hv => kk v H5 (e'.trans e) hv
    · show D.bl false = D.bl (awaitF st c)
      have z : awaitF st c = false := List.any_eq_false.mpr fun p hp => by
        rw [List.length_map, List.take_length] at hall
        rw [hall p hp]
        decide
      rw [z]
end
end Le

namespace Le
open PySem PySem.Spec PyProof.Rows L2
local macro_rules | `(tactic| wtm_at "ev1") => `(tactic| first
  | with_reducible exact ev_int | with_reducible exact ev_str | with_reducible exact ev_bl | with_reducible exact ev_non
  | with_reducible apply ev_var | with_reducible apply ev_op | with_reducible apply ev_chain
  | with_reducible apply ev_and | with_reducible apply ev_or | with_reducible apply ev_not
  | with_reducible apply et_and | with_reducible apply et_or | with_reducible apply et_not | with_reducible apply et_test | with_reducible apply et_B | with_reducible apply et_tru
  | with_reducible apply ev_if
  | with_reducible apply ev_tup | with_reducible apply ev_lst | with_reducible apply ea_cons | with_reducible exact ea_nil | with_reducible apply ev_cb
  | with_reducible exact rv_add | with_reducible exact rv_sub | with_reducible exact rv_lt | with_reducible exact rv_le | with_reducible exact rv_gt | with_reducible exact rv_ge
  | with_reducible exact rv_S | with_reducible exact rv_eqS | with_reducible exact rv_neS | with_reducible exact rv_eqI | with_reducible exact rv_neI | with_reducible exact rv_isN | with_reducible exact rv_notN | with_reducible exact rv_isB
  | with_reducible apply rv_ixT | with_reducible apply rv_ixL
  | with_reducible exact rc_lenL | with_reducible exact rc_lenT | with_reducible exact rc_list | with_reducible exact rc_tuple | with_reducible exact rc_intI | with_reducible exact rc_intB | with_reducible exact rc_min | with_reducible exact rc_max
  | wtm_at "evc"
  | (with_reducible apply dv_id; assumption) | (with_reducible apply dv_mono; assumption) | with_reducible apply dv_pin
  | (with_reducible intro _) | (with_reducible apply at_id; assumption) | exact rfl | (with_reducible apply le_id; exact Nat.le_of_ble_eq_true rfl))
local macro_rules | `(tactic| wtm_at "ev") => `(tactic| repeat' (wtm_at "ev1"))
local macro_rules | `(tactic| wtm_at "jj") => `(tactic| first | assumption | exact Ext.j (by assumption))
local macro_rules | `(tactic| wtm_at "evc") => `(tactic| first | with_reducible apply ev_contains | with_reducible apply ev_includes | with_reducible apply ev_touches | with_reducible apply ev_cover_of | with_reducible apply ev_w_cover_of | with_reducible apply ev_w_within | with_reducible apply ev_w_touches | with_reducible apply ev_least_record | with_reducible apply ev_selected | with_reducible apply ev_w_rows | with_reducible apply ev_ask | with_reducible apply ev_w_ask | with_reducible apply ev_apply | with_reducible apply ev_at | with_reducible apply ev_w_at | with_reducible apply ev_results | with_reducible apply ev_w_results | with_reducible apply ev_is_answer_at | with_reducible apply ev_is_true_at | with_reducible apply ev_is_true | with_reducible apply ev_w_is_true | with_reducible apply ev_supports_newest | with_reducible apply ev_supports | with_reducible apply ev_w_supports | with_reducible apply ev_accepts | with_reducible apply ev_w_accepts | with_reducible apply ev_w_is_right | with_reducible apply ev_w_reach | with_reducible apply ev_w_mix | with_reducible apply ev_w_number | with_reducible apply ev_w_is_integer | with_reducible apply ev_w_tells)
section
variable {F : Fr} {K : PySem.W.Frag} {σ : L2.St} {H H1 : Hp} {tl : TE} {ds : List D} {D' : Ends} {tb u : TS} {i j : Nat}
theorem s_forESp {G : Fr} (le : Le1 G F) (jj : G.J H) (h : Ev G tl σ H (.lst ds)) (Pv : Nat → L2.St → Hp → Prop) (h0 : ∀ H2, Ext G H H2 → Pv 0 σ H2)
    (hs : ∀ (n : Nat) d v σ' H', ds[n]? = some d → Ext F H H' → Pv n σ' H' → ∀ H2, Ext F H' H2 → (∀ a o, H' a = some o → H2 a = some o) → Dv F H2 v d → tb ⟨fun σ3 H3 => Ext F H' H3 ∧ Pv (n + 1) σ3 H3, D'.rt, u D', fun σ3 H3 => Ext F H' H3 ∧ Pv (n + 1) σ3 H3⟩ ((σ'.set i (some (.int (n : Nat)))).set j (some v)) H2)
    (hd : ∀ σ' H', Ext F H H' → Pv ds.length σ' H' → u D' σ' H') : tSeq (tFor (iEnum K (tCons tl tNil)) (gTup K 2 (gCons (gName i) (gCons (gName j) gNil))) tb) u D' σ H := h.use jj fun v H2 e0 hv0 => by
  have e2 := le.ext e0
  have hv := le.dv hv0
  obtain ⟨a, xs, rfl, s, ha, hx⟩ := hv.lst_inv
  refine ⟨a, xs, rfl, SqL.of ha, fun i m σ' H' => m = xs.length - i ∧ i ≤ xs.length ∧ Ext F H2 H' ∧ Pv i σ' H', ⟨xs.length, rfl, Nat.zero_le _, Ext.refl e2.j, h0 H2 e0⟩, ?_⟩
  rintro n m σ' H' ⟨rfl, hi, e', p⟩
  have q : SqL K H' a xs := SqL.of (e'.k _ _ s ha)
  by_cases hlt : n < xs.length
  · refine .inr ⟨⟨xs, xs[n], q, by simp [hlt]⟩, fun σ3 H3 => Ext F H' H3 ∧ Pv (n + 1) σ3 H3, fun σ3 H3 p' => ⟨xs.length - (n + 1), by omega, rfl, hlt, e'.trans p'.1, p'.2⟩, fun x H3 y => ?_⟩
    obtain ⟨T, w, rfl, hT, rfl, y⟩ := y
    obtain ⟨d, hd1, hd2⟩ := hx.getV (y xs q)
    have eT : Ext F H' (upd H' T (.tup [.int (n : Nat), w])) := (Ext.refl e'.j).new hT
    refine ⟨T, _, rfl, SqT.of upd_same, rfl, _, _, rfl, _, _, rfl, rfl, ?_⟩
    exact hs n d w σ' H' hd1 (e2.trans e') p _ eT (same_new hT) ((hd2.mono e').mono eT)
  · have ei : n = xs.length := by omega
    subst ei
    refine .inl ⟨⟨xs, q, Nat.le_refl _⟩, hd σ' H' (e2.trans e') ?_⟩
    rw [← hx.len]
    exact p
end
section
variable {P : Program} {w : World} {K : PySem.W.Frag} {mg : Str → Option Value} {base : Heap}
theorem sc_S_recalls : FnScope ["self", "groups", "time", "letters", "index", "lease", "touched", "group"] ["self", "groups", "time"] d_S_recalls.scope := ⟨rfl, rfl, rfl, by decide +kernel, rfl, by decide +kernel, by decide +kernel⟩
theorem g_S_recalls (T : Tx K mg) (G_touches : Good P w K mg base 2 "touches" ["group", "cover"] sp_touches) (G_L_is_active : GoodM P w K mg base 1 (aLease K) "is_active" ["self", "time"] (sp_L_is_active K)) : GoodM P w K mg base 3 (aStore K) "recalls" ["self", "groups", "time"] (sp_S_recalls K) := by
  refine good_meth (C := "Store") (He.cls_ok (F_c_Store T.c)) (D_S_recalls T.c) (He.meth_ok (F_m_S_recalls T.c)) (fun _ _ _ _ _ _ us hl => match us, hl with | [_, _, _], _ => rfl) sc_S_recalls (fun vs H Q E ⟨_, _, _, _, h, _⟩ => by rw [h]; rfl) ⟨_, fun f cdv A outer s H E hr =>
    (pss_cons (ps_set (i := 3) sc_S_recalls.nd rfl (Or.inl rfl) (pe_lst pa_nil))
      (pss_cons (ps_for PassesOwn.never rfl (k_pi_enum (K := K) rfl (by rfl) (T.free _ (F_b_enumerate T.c)) (pa_cons (k_fld (K := K) rfl (pv 0) rfl) pa_nil)) (k_pg_tup (K := K) (n := 2) rfl rfl (pgs_cons (pg_name (i := 4) sc_S_recalls.nd rfl (Or.inl rfl)) (pgs_cons (pg_name (i := 5) sc_S_recalls.nd rfl (Or.inr rfl)) pgs_nil))) (pss_cons (ps_set (i := 6) sc_S_recalls.nd rfl (Or.inl rfl) (pe_cmpR (k_in_seq (K := K) rfl) pe_bl (pe_lc (own := [("group", 7)]) (g := gName 7) (tt := tYes) rfl sc_S_recalls.nd (k_pi_list (K := K) rfl (pv 1)) (blkOk_by (own := [("group", 7)]) (N := ["self", "groups", "time", "letters", "index", "lease", "touched", "group"]) (sc := d_S_recalls.scope) (by decide +kernel)) (fun _ _ _ _ _ => pg_name (i := 7) sc_S_recalls.nd rfl (Or.inl rfl)) (fun _ _ _ _ _ => pts_nil) (fun _ _ _ _ _ => (pe_cG G_touches hr rfl (pa_cons (pv 7) (pa_cons (k_fld (K := K) rfl (pv 5) rfl) pa_nil))))) (by rfl)))
      (pss_one (ps_if (PW.pt (pw_and (pt_val (pv 6)) (pw_and1 (pt_val (pe_mG G_L_is_active (hr.mono (by decide)) (pv 5) (pa_cons (pv 2) pa_nil)))))) (pss_one (ps_expr (k_bm (K := K) rfl PySem.F.plainAttrs_list PySem.F.slot_list_append PySem.F.type_list_append mt_append (pv 3) (pa_cons (pe_tup (pa_cons pe_str (pa_cons (pe_ix (k_ix_tup (K := K) rfl) (k_fld (K := K) rfl (pv 5) rfl) pe_int (fun _ _ => rfl)) (pa_cons (pe_ix (k_ix_tup (K := K) rfl) (k_fld (K := K) rfl (pv 5) rfl) pe_int (fun _ _ => rfl)) (pa_cons (pv 4) pa_nil))))) pa_nil)))) pss_nil))))
      (pss_one (ps_ret (pv 3))))), ?_⟩
  rintro vs H Q E ⟨st, gs, time, v2, rfl, h2, sa, l1, l2, kk⟩
  generalize eF : F0 = F at h2
  have r : Sro F st := by rw [← eF]; exact Sro.F0
  have j : F.J H := by rw [← eF]; trivial
  obtain ⟨v1, e1⟩ : ∃ v1, v1 = V.ref st.ad := ⟨_, rfl⟩
  obtain ⟨v3, e3⟩ : ∃ v3, v3 = V.int time := ⟨_, rfl⟩
  have h1 : Dv F H v1 (.adr st.ad) := by rw [e1]; exact .adr _
  have h3 : Dv F H v3 (.int time) := by rw [e3]; exact .int _
  rw [← e1, ← e3]
  have h1' : Dv F H v1 (.adr st.ad) := h1
  have h2' : Dv F H v2 (.lst (gs.map kG)) := h2
  have h3' : Dv F H v3 (.int time) := h3
  have l1' : st.lss.length ≤ 1000 := l1
  have l2' : gs.length ≤ 1000 := l2
  cases h1'.adr_inv
  refine s_newS j fun p hp jp => ?_
  have ps : preS K (F.pin p (.lst [])) (upd H p (.lst [])) st := preS.add ⟨r, sa⟩ hp
  have h2p := h2'.add (p := p) (o := .lst []) hp
  have h3p := h3'.add (p := p) (o := .lst []) hp
  have nU : ¬ F.U p := fun u => F.live j u hp
  have nS : ¬ F.S p := fun s => nU (F.sub s)
  apply s_forESp Le1.pin jp (ev_grs T ps.2 ps.1 (ev_var rfl (.adr _))) (Pv := fun i σ' H' => ∃ a b c xs ds, σ' = [some (.ref st.ad), some v2, some v3, some (.ref p), a, b, c, none] ∧ H' p = some (.lst xs) ∧ DvA (F.add p) H' xs ds ∧ immA ds = true ∧ List.length ds ≤ i)
  · exact fun H2 e2 => ⟨none, none, none, [], [], rfl, e2.at_, .nil, rfl, Nat.le_refl _⟩
  · rintro n d v σ' H' hi e' ⟨a, b, c, xs, ds, rfl, hx, hda, him, hdl⟩ H2 e2 sm hv
    rw [List.getElem?_map] at hi
    obtain ⟨q, hq, rfl⟩ := Option.map_eq_some_iff.mp hi
    have nl : n < st.lss.length := (List.getElem?_eq_some_iff.mp hq).1
    have pm := List.mem_of_getElem? hq
    have pl : preL K (F.add p) H2 q.1 q.2 := preL.mono e2 (preL.mono e' (preS.ls ps.unpin pm))
    have jq := pin_j e2.j (sm _ _ hx) rfl
    have plp : preL K (F.pin p (.lst xs)) H2 q.1 q.2 := pl
    have hvp : Dv (F.pin p (.lst xs)) H2 v (.adr q.1) := Dv.pin hv
    have g2 := ((h2p.mono e').mono e2).pin (o := .lst xs)
    have g3 := ((h3p.mono e').mono e2).pin (o := .lst xs)
    have hda2 := hda.mono e2
    apply s_setS (d := .bl ((gs.map fun g => tch g q.2.cov).any fun c => c == true)) jq
    · refine ev_op (d2 := .lst ((gs.map fun g => tch g q.2.cov).map D.bl)) ev_bl ?_ rv_inB
      rw [List.map_map]
      refine (ev_lcM (ws := gs) (enc := kG) (ev_var rfl g2) (D.bl ∘ fun g => tch g q.2.cov) (fun _ _ => rfl) (by omega) ?_).toEv
      intro i g x H'' hi e'' hx2
      refine ⟨_, fun Q q => q, rfl, ?_⟩
      have pl2 := preL.mono e'' plp
      exact ev_touches (ea_cons (ev_var rfl hx2) (ea_cons (ev_cov T pl2.2 pl2.1 (ev_var rfl (hvp.mono e''))) ea_nil))
    intro v6 H3 e3 h6
    have pl3 := preL.mono e3 plp
    have hv3 := hvp.mono e3
    apply s_ifN e3.j (b := ((gs.map fun g => tch g q.2.cov).any fun c => c == true) && actF q.2 time)
    · apply et_and
      · exact et_B (ev_var rfl h6)
      · intro _
        apply et_B
        refine ev_active pl3 (ev_var rfl hv3) ?_
        exact ea_cons (ev_var rfl (g3.mono e3)) ea_nil
    · intro hb H4 e4
      have pl4 := preL.mono e4 pl3
      have hv4 := hv3.mono e4
      apply s_app e4.j (d := .tup [.str "recall", .int q.2.host, .int q.2.inc, .int (n : Nat)]) rfl
      · refine ev_tup (ea_cons ev_str (ea_cons (ev_op (ev_own T pl4.2 pl4.1 (ev_var rfl hv4)) ev_int (rv_ixT rfl)) (ea_cons (ev_op (ev_own T pl4.2 pl4.1 (ev_var rfl hv4)) ev_int (rv_ixT rfl)) (ea_cons (ev_var rfl (.int _)) ea_nil)))) ?_
        show 4 ≤ 100000
        decide
      · rw [hda2.len]
        omega
      · intro v9 H5 e5 h9
        have tk := tupF (u := .lst (xs ++ [v9])) e5.at_ rfl
        have e35 := (e3.trans e4).trans e5
        refine ⟨e2.trans (e35.put rfl), _, _, _, _, ds ++ [.tup [.str "recall", .int q.2.host, .int q.2.inc, .int (n : Nat)]], rfl, upd_same, ((hda2.mono e35.unpin).cast tk him).snoc (h9.cast tk rfl), ?_, by rw [List.length_append]; show List.length ds + 1 ≤ n + 1; omega⟩
        refine immA_all.mpr fun z hz => ?_
        rcases List.mem_append.mp hz with y | y
        · exact immA_all.mp him z y
        · rw [List.mem_singleton.mp y]
          rfl
    · intro hb H4 e4
      have e34 := e3.trans e4
      exact ⟨e2.trans e34.unpin, _, _, _, xs, ds, rfl, e34.at_, hda2.mono e34.unpin, him, by omega⟩
  · rintro σ' H' e' ⟨a, b, c, xs, ds, rfl, hx, hda, him, hdl⟩
    rw [List.length_map] at hdl
    have e9 : Ext F H H' := Ext.drop' hp e'
    rw [← eF] at e9
    exact ⟨_, rfl, kk p xs H' e9.of0 hp hx (by rw [hda.len]; exact hdl)⟩
end
end Le

namespace Le
open PySem PySem.Spec PyProof.Rows L2
local macro_rules | `(tactic| wtm_at "ev1") => `(tactic| first
  | with_reducible exact ev_int | with_reducible exact ev_str | with_reducible exact ev_bl | with_reducible exact ev_non
  | with_reducible apply ev_var | with_reducible apply ev_op | with_reducible apply ev_chain
  | with_reducible apply ev_and | with_reducible apply ev_or | with_reducible apply ev_not
  | with_reducible apply et_and | with_reducible apply et_or | with_reducible apply et_not | with_reducible apply et_test | with_reducible apply et_B | with_reducible apply et_tru
  | with_reducible apply ev_if
  | with_reducible apply ev_tup | with_reducible apply ev_lst | with_reducible apply ea_cons | with_reducible exact ea_nil | with_reducible apply ev_cb
  | with_reducible exact rv_add | with_reducible exact rv_sub | with_reducible exact rv_lt | with_reducible exact rv_le | with_reducible exact rv_gt | with_reducible exact rv_ge
  | with_reducible exact rv_S | with_reducible exact rv_eqS | with_reducible exact rv_neS | with_reducible exact rv_eqI | with_reducible exact rv_neI | with_reducible exact rv_isN | with_reducible exact rv_notN | with_reducible exact rv_isB
  | with_reducible apply rv_ixT | with_reducible apply rv_ixL
  | with_reducible exact rc_lenL | with_reducible exact rc_lenT | with_reducible exact rc_list | with_reducible exact rc_tuple | with_reducible exact rc_intI | with_reducible exact rc_intB | with_reducible exact rc_min | with_reducible exact rc_max
  | wtm_at "evc"
  | (with_reducible apply dv_id; assumption) | (with_reducible apply dv_mono; assumption) | with_reducible apply dv_pin
  | (with_reducible intro _) | (with_reducible apply at_id; assumption) | exact rfl | (with_reducible apply le_id; exact Nat.le_of_ble_eq_true rfl))
local macro_rules | `(tactic| wtm_at "ev") => `(tactic| repeat' (wtm_at "ev1"))
local macro_rules | `(tactic| wtm_at "jj") => `(tactic| first | assumption | exact Ext.j (by assumption))
local macro_rules | `(tactic| wtm_at "evc") => `(tactic| first | with_reducible apply ev_contains | with_reducible apply ev_includes | with_reducible apply ev_touches | with_reducible apply ev_cover_of | with_reducible apply ev_w_cover_of | with_reducible apply ev_w_within | with_reducible apply ev_w_touches | with_reducible apply ev_least_record | with_reducible apply ev_selected | with_reducible apply ev_w_rows | with_reducible apply ev_ask | with_reducible apply ev_w_ask | with_reducible apply ev_apply | with_reducible apply ev_at | with_reducible apply ev_w_at | with_reducible apply ev_results | with_reducible apply ev_w_results | with_reducible apply ev_is_answer_at | with_reducible apply ev_is_true_at | with_reducible apply ev_is_true | with_reducible apply ev_w_is_true | with_reducible apply ev_supports_newest | with_reducible apply ev_supports | with_reducible apply ev_w_supports | with_reducible apply ev_accepts | with_reducible apply ev_w_accepts | with_reducible apply ev_w_is_right | with_reducible apply ev_w_reach | with_reducible apply ev_w_mix | with_reducible apply ev_w_number | with_reducible apply ev_w_is_integer | with_reducible apply ev_w_tells)
theorem hu65 {A : Around} {k : Nat} (hr : Room k A) : A.units + 65 < cLine := by
  have := hr.un
  omega
/-- from one store to the next: what is not the store's is as it was, the new cells were free -/
structure Chg (st st' : Sto) (H H' : Hp) : Prop where
  k : ∀ a o, ¬ own st a → H a = some o → H' a = some o
  t : ∀ a xs, H a = some (.tup xs) → H' a = some (.tup xs)
  n : ∀ a, own st' a → own st a ∨ H a = none
  m : ∀ a, own st a → own st' a
section
variable {F : Fr} {K : PySem.W.Frag} {mg : Str → Option Value} {σ : L2.St} {H H' H1 H2 : Hp} {ta te tl : TE} {tt : TT} {st st1 st2 : Sto} {a p : Addr} {l : Ls} {D' : Ends} {u tb : TS} {d : D} {i j : Nat} {f : Str}
theorem Chg.trans (c1 : Chg st st1 H H1) (c2 : Chg st1 st2 H1 H2) : Chg st st2 H H2 := by
  refine ⟨fun a o n h => c2.k a o (fun z => ?_) (c1.k a o n h), fun a xs h => c2.t a xs (c1.t a xs h), fun a z => ?_, fun a z => c2.m a (c1.m a z)⟩
  · rcases c1.n a z with y | y
    · exact n y
    · rw [y] at h
      cases h
  · rcases c2.n a z with y | y
    · exact c1.n a y
    · by_cases q : own st a
      · exact Or.inl q
      · cases w : H a with
        | none => exact Or.inr rfl
        | some o =>
          rw [c1.k a o q w] at y
          cases y
theorem Chg.same (s : Same H H') : Chg st st H H' := ⟨fun a o _ h => s a o h, fun a xs h => s a _ h, fun a z => Or.inl z, fun a z => z⟩
theorem Chg.free (c : Chg st st1 H H1) (h : H1 p = none) (hs : StoreAt K H1 st1) : H p = none := by
  cases w : H p with
  | none => rfl
  | some o =>
    by_cases q : own st p
    · obtain ⟨o2, h2, ht⟩ := hs.live (c.m p q)
      rw [h2] at h
      cases h
    · rw [c.k p o q w] at h
      cases h
theorem t_fld {C dx : Addr} {fs : List (Str × V)} {v : V} {Q : VK} (h : σ[i]? = some (some (.ref a))) (hi : H a = some (.ins C dx fs)) (hc : Cls K C) (hn : NoAttr K C f) (hl : fs.lookup f = some v) (q : Q v H) : tFld K (tVar i) f σ H Q :=
  ⟨_, h, a, C, dx, fs, v, rfl, hi, hc, hn, hl, q⟩
/-- a list in a field gets an item -/
theorem s_appFS {C dx : Addr} {fs : List (Str × V)} {xs : List V} (h : σ[i]? = some (some (.ref a))) (hi : H a = some (.ins C dx fs)) (hc : Cls K C) (hn : NoAttr K C f) (hl : fs.lookup f = some (.ref p)) (hp : H p = some (.lst xs))
    (hv : Ev F0 te σ H d) (hz : xs.length < 100000) (k : ∀ v H2, Same H H2 → Dv F0 H2 v d → u D' σ (upd H2 p (.lst (xs ++ [v])))) : tSeq (tDrop (tBM K "list" rAppend (tFld K (tVar i) f) (tCons te tNil))) u D' σ H := by
  show tFld K (tVar i) f σ H fun x H1 => tyV K "list" x H1 ∧ tCons te tNil σ H1 fun xs H2 => rAppend x xs H2 fun _ H3 => u D' σ H3
  exact t_fld h hi hc hn hl ⟨Or.inl ⟨rfl, xs, SqL.of hp⟩, hv.use trivial fun v H2 e2 hv => ⟨p, xs, v, rfl, rfl, e2.of0 _ _ hp, sz_lt hz, k v H2 e2.of0 hv⟩⟩
/-- a field is set -/
theorem s_fld {C dx : Addr} {fs : List (Str × V)} {v : V} (hv : σ[j]? = some (some v)) (h : σ[i]? = some (some (.ref a))) (hi : H a = some (.ins C dx fs)) (hc : Cls K C) (hn : NoAttr K C f) (hz : fs.length < 1000) (k : D'.nx σ (upd H a (.ins C dx (putF f v fs)))) : sFld K (tVar i) (tVar j) f D' σ H :=
  ⟨v, hv, _, h, a, C, dx, fs, rfl, hi, hc, hn, hz, k⟩
theorem s_fldS {C dx : Addr} {fs : List (Str × V)} {v : V} (hv : σ[j]? = some (some v)) (h : σ[i]? = some (some (.ref a))) (hi : H a = some (.ins C dx fs)) (hc : Cls K C) (hn : NoAttr K C f) (hz : fs.length < 1000) (k : u D' σ (upd H a (.ins C dx (putF f v fs)))) : tSeq (sFld K (tVar i) (tVar j) f) u D' σ H := s_fld hv h hi hc hn hz k
theorem s_fldB {C dx : Addr} {fs : List (Str × V)} {b : Bool} (h : σ[i]? = some (some (.ref a))) (hi : H a = some (.ins C dx fs)) (hc : Cls K C) (hn : NoAttr K C f) (hz : fs.length < 1000) (k : D'.nx σ (upd H a (.ins C dx (putF f (.bl b) fs)))) : sFld K (tVar i) (tC (.bl b)) f D' σ H :=
  ⟨_, h, a, C, dx, fs, rfl, hi, hc, hn, hz, k⟩
theorem s_fldNewS {C dx : Addr} {fs : List (Str × V)} (h : σ[i]? = some (some (.ref a))) (hi : H a = some (.ins C dx fs)) (hc : Cls K C) (hn : NoAttr K C f) (hz : fs.length < 1000) (k : ∀ p, H p = none → p ≠ a → u D' σ (upd (upd H p (.lst [])) a (.ins C dx (putF f (.ref p) fs)))) : tSeq (sFld K (tVar i) (tLst tNil) f) u D' σ H :=
  ⟨Nat.zero_le _, fun p hp => by
    have ne : a ≠ p := ne_of_none hi hp
    exact ⟨_, h, a, C, dx, fs, rfl, by rw [upd_ne ne]; exact hi, hc, hn, hz, k p hp fun z => ne z.symm⟩⟩
theorem s_fldNewTS {C dx : Addr} {fs : List (Str × V)} (h : σ[i]? = some (some (.ref a))) (hi : H a = some (.ins C dx fs)) (hc : Cls K C) (hn : NoAttr K C f) (hz : fs.length < 1000) (k : ∀ p, H p = none → p ≠ a → u D' σ (upd (upd H p (.dT [])) a (.ins C dx (putF f (.ref p) fs)))) : tSeq (sFld K (tVar i) tDNewT f) u D' σ H :=
  fun p hp => by
    have ne : a ≠ p := ne_of_none hi hp
    exact ⟨_, h, a, C, dx, fs, rfl, by rw [upd_ne ne]; exact hi, hc, hn, hz, k p hp fun z => ne z.symm⟩
/-- a loop whose body changes what it will -/
theorem s_whileX (W : Nat → L2.St → Hp → Prop) (m0 : Nat) (h0 : W m0 σ H)
    (hs : ∀ m σ' H', W m σ' H' → ∃ b, EvT F0 tt σ' H' b ∧ (b = true → ∀ H2, Ext F0 H' H2 → tb ⟨fun σ3 H3 => ∃ m', m' < m ∧ W m' σ3 H3, D'.rt, u D', fun σ3 H3 => ∃ m', m' < m ∧ W m' σ3 H3⟩ σ' H2) ∧
      (b = false → ∀ H2, Ext F0 H' H2 → u D' σ' H2)) : tSeq (tWhile tt tb) u D' σ H := by
  refine ⟨W, ⟨m0, h0⟩, ?_⟩
  rintro m σ' H' w
  obtain ⟨b, hb, h1, h2⟩ := hs m σ' H' w
  refine hb.use trivial fun H2 e2 => ?_
  cases b with
  | true => exact iteT ⟨fun σ3 H3 => ∃ m', m' < m ∧ W m' σ3 H3, fun σ3 H3 z => z, h1 rfl H2 e2⟩
  | false => exact iteF (h2 rfl H2 e2)
end
def keyW (w : Wt) : Int × Int × Int := (w.host, w.inc, w.num)
def commitF (st : Sto) (w : Wt) (time : Int) : Sto := { st with cms := st.cms ++ [(time, w.gr)], wks := st.wks ++ [keyW w] }
def settleW (time : Int) : List Wt → Sto → Sto
  | [], st => { st with wts := [] }
  | w :: r, st => if heldF st w.gr time = true then { st with wts := w :: r } else settleW time r (commitF { st with wts := r } w time)
def settleF (time : Int) (st : Sto) : Sto := settleW time st.wts st
def writeF (st : Sto) (w : Wt) : Sto := { st with wts := st.wts ++ [w] }
def retL (st : Sto) (n : Nat) : Sto := { st with lss := st.lss.modify n fun p => (p.1, { p.2 with ret := true }) }
def grantF (st : Sto) (q : Addr) (l : Ls) : Sto := { st with lss := st.lss ++ [(q, l)] }
structure StOk (st : Sto) : Prop where
  n : st.cms.length + st.wts.length ≤ 200
  w : st.wks.length ≤ st.cms.length
  l : st.lss.length ≤ 200
def sp_L_init (K : PySem.W.Frag) : Sp := fun vs H Q _ => ∃ x dx vo vc, ∃ l : Ls, vs = [.ref x, vo, .int l.req, vc, .int l.til, .int l.mom, .int l.tim] ∧ H x = some (.ins (aLease K) dx []) ∧ ∀ H', H' x = some (.ins (aLease K) dx (lsFs l vo vc false)) → (∀ b, b ≠ x → H' b = H b) → Q .non H'
def sp_S_init (K : PySem.W.Frag) : Sp := fun vs H Q _ => ∃ x dx, ∃ len : Int, vs = [.ref x, .int 2, .int len] ∧ H x = some (.ins (aStore K) dx []) ∧ ∀ H' st, st.ad = x → st.len = len → st.cms = [] → st.lss = [] → st.wts = [] → st.wks = [] → StoreAt K H' st → (∀ b o, b ≠ x → H b = some o → H' b = some o) → (∀ b, own st b → b = x ∨ H b = none) → Q .non H'
/-- a new list comes back, of n items at most -/
def backL (K : PySem.W.Frag) (st st' : Sto) (n : Nat) (H : Hp) (Q : VK) : Prop := ∀ p xs H', StoreAt K H' st' → Chg st st' H H' → H p = none → ¬ own st' p → H' p = some (.lst xs) → xs.length ≤ n → Q (.ref p) H'
def sp_S_commit (K : PySem.W.Frag) : Sp := fun vs H Q _ => ∃ st v, ∃ w : Wt, ∃ time : Int, vs = [.ref st.ad, v, .int time] ∧ Dv F0 H v (kWt w) ∧ StoreAt K H st ∧ st.cms.length ≤ 1000 ∧ st.wks.length ≤ 1000 ∧ backL K st (commitF st w time) 3 H Q
def sp_S_settle (K : PySem.W.Frag) : Sp := fun vs H Q _ => ∃ st, ∃ time : Int, vs = [.ref st.ad, .int time] ∧ StoreAt K H st ∧ StOk st ∧ backL K st (settleF time st) 600 H Q
def sp_S_handle_write (K : PySem.W.Frag) : Sp := fun vs H Q _ => ∃ st v, ∃ w : Wt, ∃ time : Int, vs = [.ref st.ad, v, .int time] ∧ Dv F0 H v (.tup [.str "write", .int w.host, .int w.inc, .int w.num, kG w.gr]) ∧ StoreAt K H st ∧ StOk st ∧ st.cms.length + st.wts.length ≤ 199 ∧
  (∀ k, k ∈ st.wks → k.2.2 < w.num) ∧ (∀ y, y ∈ st.wts → y.num < w.num) ∧ (∀ y, y ∈ w.gr → PySem.PyData.strOk y.1 = true) ∧ ∀ v H', StoreAt K H' (settleF time (writeF st w)) → Chg st (settleF time (writeF st w)) H H' → Q v H'
def sp_S_handle_lease (K : PySem.W.Frag) : Sp := fun vs H Q _ => ∃ st v, ∃ h i n : Int, ∃ c : Cov, ∃ time : Int, vs = [.ref st.ad, v, .int time] ∧ Dv F0 H v (.tup [.str "lease", .int h, .int i, .int n, kC c]) ∧ StoreAt K H st ∧ StOk st ∧ st.lss.length ≤ 199 ∧ (∀ p, p ∈ st.lss → p.2.req < n) ∧
  (awaitF st c = true → ∀ v H', StoreAt K H' st → Chg st st H H' → Q v H') ∧
  (awaitF st c = false → ∀ q v H', StoreAt K H' (grantF st q ⟨h, i, n, c, time + st.len, (st.cms.length : Nat), time, false⟩) → Chg st (grantF st q ⟨h, i, n, c, time + st.len, (st.cms.length : Nat), time, false⟩) H H' → Q v H')
def sp_S_handle_return (K : PySem.W.Frag) : Sp := fun vs H Q _ => ∃ st v, ∃ h i n : Int, ∃ time : Int, vs = [.ref st.ad, v, .int time] ∧ Dv F0 H v (.tup [.str "return", .int h, .int i, .int n]) ∧ StoreAt K H st ∧ StOk st ∧
  ∀ st' v H', (st' = st ∨ ∃ k : Nat, st' = settleF time (retL st k)) → StoreAt K H' st' → Chg st st' H H' → Q v H'
/-- what the law sends -/
def sp_S_handle (K : PySem.W.Frag) : Sp := fun vs H Q E => ∃ st, ∃ v, ∃ time : Int, vs = [.ref st.ad, v, .int time] ∧ StoreAt K H st ∧
  ((sp_S_handle_write K vs H Q E ∧ ∃ r, Dv F0 H v (.tup (.str "write" :: r))) ∨ (sp_S_handle_lease K vs H Q E ∧ ∃ r, Dv F0 H v (.tup (.str "lease" :: r))) ∨ (sp_S_handle_return K vs H Q E ∧ ∃ r, Dv F0 H v (.tup (.str "return" :: r))))
section
variable {K : PySem.W.Frag} {vs : List V} {H H' : Hp} {Q : VK} {E : XK}
theorem write_same (s : Same H H') (h : sp_S_handle_write K vs H Q E) : sp_S_handle_write K vs H' Q E := by
  obtain ⟨st, v, wt, time, e, hv, sa, ok, okn, fk, fw, sk, kk⟩ := h
  exact ⟨st, v, wt, time, e, hv.mono (Ext.to0 s), sa.mono (Ext.to0 s) Sro.F0, ok, okn, fk, fw, sk, fun v G a c => kk v G a ((Chg.same s).trans c)⟩
theorem lease_same (s : Same H H') (h : sp_S_handle_lease K vs H Q E) : sp_S_handle_lease K vs H' Q E := by
  obtain ⟨st, v, h, i, n, c, time, e, hv, sa, ok, okn, fl, kk1, kk2⟩ := h
  exact ⟨st, v, h, i, n, c, time, e, hv.mono (Ext.to0 s), sa.mono (Ext.to0 s) Sro.F0, ok, okn, fl, fun b v G a c => kk1 b v G a ((Chg.same s).trans c), fun b q v G a c => kk2 b q v G a ((Chg.same s).trans c)⟩
theorem return_same (s : Same H H') (h : sp_S_handle_return K vs H Q E) : sp_S_handle_return K vs H' Q E := by
  obtain ⟨st, v, h, i, n, time, e, hv, sa, ok, kk⟩ := h
  exact ⟨st, v, h, i, n, time, e, hv.mono (Ext.to0 s), sa.mono (Ext.to0 s) Sro.F0, ok, fun st' v G y a c => kk st' v G y a ((Chg.same s).trans c)⟩
end
end Le

namespace Le
open PySem PySem.Spec PyProof.Rows L2
local macro_rules | `(tactic| wtm_at "ev1") => `(tactic| first
  | with_reducible exact ev_int | with_reducible exact ev_str | with_reducible exact ev_bl | with_reducible exact ev_non
  | with_reducible apply ev_var | with_reducible apply ev_op | with_reducible apply ev_chain
  | with_reducible apply ev_and | with_reducible apply ev_or | with_reducible apply ev_not
  | with_reducible apply et_and | with_reducible apply et_or | with_reducible apply et_not | with_reducible apply et_test | with_reducible apply et_B | with_reducible apply et_tru
  | with_reducible apply ev_if
  | with_reducible apply ev_tup | with_reducible apply ev_lst | with_reducible apply ea_cons | with_reducible exact ea_nil | with_reducible apply ev_cb
  | with_reducible exact rv_add | with_reducible exact rv_sub | with_reducible exact rv_lt | with_reducible exact rv_le | with_reducible exact rv_gt | with_reducible exact rv_ge
  | with_reducible exact rv_S | with_reducible exact rv_eqS | with_reducible exact rv_neS | with_reducible exact rv_eqI | with_reducible exact rv_neI | with_reducible exact rv_isN | with_reducible exact rv_notN | with_reducible exact rv_isB
  | with_reducible apply rv_ixT | with_reducible apply rv_ixL
  | with_reducible exact rc_lenL | with_reducible exact rc_lenT | with_reducible exact rc_list | with_reducible exact rc_tuple | with_reducible exact rc_intI | with_reducible exact rc_intB | with_reducible exact rc_min | with_reducible exact rc_max
  | wtm_at "evc"
  | (with_reducible apply dv_id; assumption) | (with_reducible apply dv_mono; assumption) | with_reducible apply dv_pin
  | (with_reducible intro _) | (with_reducible apply at_id; assumption) | exact rfl | (with_reducible apply le_id; exact Nat.le_of_ble_eq_true rfl))
local macro_rules | `(tactic| wtm_at "ev") => `(tactic| repeat' (wtm_at "ev1"))
local macro_rules | `(tactic| wtm_at "jj") => `(tactic| first | assumption | exact Ext.j (by assumption))
local macro_rules | `(tactic| wtm_at "evc") => `(tactic| first | with_reducible apply ev_contains | with_reducible apply ev_includes | with_reducible apply ev_touches | with_reducible apply ev_cover_of | with_reducible apply ev_w_cover_of | with_reducible apply ev_w_within | with_reducible apply ev_w_touches | with_reducible apply ev_least_record | with_reducible apply ev_selected | with_reducible apply ev_w_rows | with_reducible apply ev_ask | with_reducible apply ev_w_ask | with_reducible apply ev_apply | with_reducible apply ev_at | with_reducible apply ev_w_at | with_reducible apply ev_results | with_reducible apply ev_w_results | with_reducible apply ev_is_answer_at | with_reducible apply ev_is_true_at | with_reducible apply ev_is_true | with_reducible apply ev_w_is_true | with_reducible apply ev_supports_newest | with_reducible apply ev_supports | with_reducible apply ev_w_supports | with_reducible apply ev_accepts | with_reducible apply ev_w_accepts | with_reducible apply ev_w_is_right | with_reducible apply ev_w_reach | with_reducible apply ev_w_mix | with_reducible apply ev_w_number | with_reducible apply ev_w_is_integer | with_reducible apply ev_w_tells)
section
variable {K : PySem.W.Frag} {H : Hp} {st : Sto} {xs : List V} {v : V} {c : Cm} {w : Wt} {kvs : List (List L2.Key × V)}
theorem neC {H : Hp} {a b : Addr} {o u : HO} (h1 : H a = some o) (h2 : H b = some u) (h : o ≠ u) : a ≠ b := fun e => by
  rw [e, h2] at h1
  exact h (Option.some.inj h1).symm
theorem nIL {C dx : Addr} {fs : List (Str × V)} {xs : List V} : HO.ins C dx fs ≠ HO.lst xs := fun z => nomatch z
theorem nTL {kvs : List (List L2.Key × V)} {xs : List V} : HO.dT kvs ≠ HO.lst xs := fun z => nomatch z
theorem nIT {C dx : Addr} {fs : List (Str × V)} {kvs : List (List L2.Key × V)} : HO.ins C dx fs ≠ HO.dT kvs := fun z => nomatch z
theorem StoreAt.lsL (h : StoreAt K H st) {a : Addr} {o : HO} (ha : H a = some (.lst xs)) {p : Addr × Ls} (hp : p ∈ st.lss) : LsAt K (upd H a (.lst xs)) p.1 p.2 := h.ls p hp |>.keep (fun o q => by
    by_cases e : p.1 = a
    · rw [e, upd_same, ← ha, ← e, q]
    · rw [upd_ne e, q]) fun b ys q => by
    by_cases e : b = a
    · rw [e, upd_same, ← ha, ← e, q]
    · rw [upd_ne e, q]
theorem LsAt.ins {a : Addr} {l : Ls} (h : LsAt K H a l) : ∃ dx fs, H a = some (.ins (aLease K) dx fs) := by
  obtain ⟨dx, vo, vc, q, _⟩ := h
  exact ⟨_, _, q⟩
/-- a lease where a cell of another kind is changed -/
theorem LsAt.updO {a p : Addr} {o u : HO} {l : Ls} (h : LsAt K H a l) (hp : H p = some o) (ht : isTup o = false) (hi : ∀ C dx fs, HO.ins C dx fs ≠ o) : LsAt K (upd H p u) a l := h.keep (fun x q => by
    obtain ⟨dx, fs, z⟩ := h.ins
    rw [upd_ne (neC z hp (hi _ _ _)), q]) (tupF hp ht)
theorem StoreAt.addCm (h : StoreAt K H st) (hx : H st.cm = some (.lst xs)) (hd : DvA F0 H xs (st.cms.map kCm)) (hv : Dv F0 H v (kCm c)) : StoreAt K (upd H st.cm (.lst (xs ++ [v]))) { st with cms := st.cms ++ [c] } where
  ins := by
    show upd H st.cm _ st.ad = _
    rw [upd_ne (neC h.ins hx nIL)]
    exact h.ins
  cm := ⟨_, upd_same, by
    have tk := tupF (u := .lst (xs ++ [v])) hx rfl
    show DvA F0 _ _ ((st.cms ++ [c]).map kCm)
    rw [List.map_append]
    exact (imA imm_kCm hd tk).snoc (hv.cast tk (imm_kCm c))⟩
  gr := by
    show upd H st.cm _ st.gr = _
    rw [upd_ne h.n1.symm]
    exact h.gr
  wt := by
    obtain ⟨ys, h1, h2⟩ := h.wt
    exact ⟨ys, by rw [upd_ne h.n2.symm]; exact h1, imA imm_kWt h2 (tupF hx rfl)⟩
  wr := by
    obtain ⟨kvs, h1, h2⟩ := h.wr
    exact ⟨kvs, by rw [upd_ne (neC h1 hx nTL)]; exact h1, h2⟩
  ls := fun p hp => (h.ls p hp).updO hx rfl fun _ _ _ z => nomatch z
  n1 := h.n1
  n2 := h.n2
  n3 := h.n3
  nd := h.nd
theorem StoreAt.setWt (h : StoreAt K H st) {ws : List Wt} {ys : List V} (hx : H st.wt = some (.lst xs)) (hd : DvA F0 H ys (ws.map kWt)) : StoreAt K (upd H st.wt (.lst ys)) { st with wts := ws } where
  ins := by
    show upd H st.wt _ st.ad = _
    rw [upd_ne (neC h.ins hx nIL)]
    exact h.ins
  cm := by
    obtain ⟨zs, h1, h2⟩ := h.cm
    exact ⟨zs, by rw [upd_ne h.n2]; exact h1, imA imm_kCm h2 (tupF hx rfl)⟩
  gr := by
    show upd H st.wt _ st.gr = _
    rw [upd_ne h.n3]
    exact h.gr
  wt := ⟨ys, upd_same, imA imm_kWt hd (tupF hx rfl)⟩
  wr := by
    obtain ⟨kvs, h1, h2⟩ := h.wr
    exact ⟨kvs, by rw [upd_ne (neC h1 hx nTL)]; exact h1, h2⟩
  ls := fun p hp => (h.ls p hp).updO hx rfl fun _ _ _ z => nomatch z
  n1 := h.n1
  n2 := h.n2
  n3 := h.n3
  nd := h.nd
theorem putK_len {k : List L2.Key} {v : V} : (putK kvs k v).length ≤ kvs.length + 1 := by
  unfold putK
  split
  · rw [List.length_map]
    omega
  · rw [List.length_append]
    exact Nat.le_refl _
theorem putK_memT {k : List L2.Key} {v : V} {p : List L2.Key × V} (h : p ∈ putK kvs k v) : (∃ q, q ∈ kvs ∧ p.1 = q.1) ∨ p.1 = k := by
  unfold putK at h
  split at h
  · obtain ⟨q, hq, e⟩ := List.mem_map.mp h
    by_cases z : q.1 = k
    · rw [if_pos z] at e
      rw [← e]
      exact Or.inr z
    · rw [if_neg z] at e
      rw [← e]
      exact Or.inl ⟨q, hq, rfl⟩
  · rcases List.mem_append.mp h with q | q
    · exact Or.inl ⟨p, q, rfl⟩
    · rw [List.mem_singleton.mp q]
      exact Or.inr rfl
theorem StoreAt.putWr (h : StoreAt K H st) {k : Int × Int × Int} (hx : H st.wr = some (.dT kvs)) (hl : kvs.length ≤ st.wks.length) (hk : ∀ p, p ∈ kvs → ∃ k, k ∈ st.wks ∧ p.1 = kkW k) : StoreAt K (upd H st.wr (.dT (putK kvs (kkW k) v))) { st with wks := st.wks ++ [k] } where
  ins := by
    show upd H st.wr _ st.ad = _
    rw [upd_ne (neC h.ins hx nIT)]
    exact h.ins
  cm := by
    obtain ⟨zs, h1, h2⟩ := h.cm
    exact ⟨zs, by rw [upd_ne (neC h1 hx nTL.symm)]; exact h1, imA imm_kCm h2 (tupF hx rfl)⟩
  gr := by
    show upd H st.wr _ st.gr = _
    rw [upd_ne (neC h.gr hx nTL.symm)]
    exact h.gr
  wt := by
    obtain ⟨zs, h1, h2⟩ := h.wt
    exact ⟨zs, by rw [upd_ne (neC h1 hx nTL.symm)]; exact h1, imA imm_kWt h2 (tupF hx rfl)⟩
  wr := ⟨_, upd_same, by
    have z := putK_len (kvs := kvs) (k := kkW k) (v := v)
    show _ ≤ (st.wks ++ [k]).length
    rw [List.length_append]
    exact Nat.le_trans z (Nat.succ_le_succ hl), fun p hp => by
    rcases putK_memT hp with ⟨q, hq, e⟩ | e
    · obtain ⟨k2, m, e2⟩ := hk q hq
      exact ⟨k2, List.mem_append.mpr (Or.inl m), e.trans e2⟩
    · exact ⟨k, List.mem_append.mpr (Or.inr (List.mem_singleton.mpr rfl)), e⟩⟩
  ls := fun p hp => (h.ls p hp).updO hx rfl fun _ _ _ z => nomatch z
  n1 := h.n1
  n2 := h.n2
  n3 := h.n3
  nd := h.nd
theorem StoreAt.addGr (h : StoreAt K H st) {q : Addr} {l : Ls} (hl : LsAt K H q l) (hq : ¬ own st q) : StoreAt K (upd H st.gr (.lst ((st.lss.map fun p => .ref p.1) ++ [.ref q]))) (grantF st q l) where
  ins := by
    show upd H st.gr _ st.ad = _
    rw [upd_ne (neC h.ins h.gr nIL)]
    exact h.ins
  cm := by
    obtain ⟨zs, h1, h2⟩ := h.cm
    exact ⟨zs, by show upd H st.gr _ st.cm = _; rw [upd_ne h.n1]; exact h1, imA imm_kCm h2 (tupF h.gr rfl)⟩
  gr := by
    show upd H st.gr _ st.gr = some (.lst ((st.lss ++ [(q, l)]).map _))
    rw [upd_same, List.map_append]
    rfl
  wt := by
    obtain ⟨zs, h1, h2⟩ := h.wt
    exact ⟨zs, by show upd H st.gr _ st.wt = _; rw [upd_ne h.n3.symm]; exact h1, imA imm_kWt h2 (tupF h.gr rfl)⟩
  wr := by
    obtain ⟨kvs, h1, h2⟩ := h.wr
    exact ⟨kvs, by show upd H st.gr _ st.wr = _; rw [upd_ne (neC h1 h.gr nTL)]; exact h1, h2⟩
  ls := fun p hp => by
    rcases List.mem_append.mp hp with z | z
    · exact (h.ls p z).updO h.gr rfl fun _ _ _ z => nomatch z
    · rw [List.mem_singleton.mp z]
      exact hl.updO h.gr rfl fun _ _ _ z => nomatch z
  n1 := h.n1
  n2 := h.n2
  n3 := h.n3
  nd := by
    show (st.ad :: (st.lss ++ [(q, l)]).map (·.1)).Nodup
    rw [List.map_append, ← List.cons_append]
    refine List.nodup_append.mpr ⟨h.nd, List.nodup_cons.mpr ⟨(fun z => by cases z), List.nodup_nil⟩, fun a ha b hb e => ?_⟩
    have eb : b = q := List.mem_singleton.mp hb
    subst eb
    subst e
    rcases List.mem_cons.mp ha with z | z
    · exact hq (Or.inl z)
    · obtain ⟨p, hp, e⟩ := List.mem_map.mp z
      exact hq (Or.inr (Or.inr (Or.inr (Or.inr (Or.inr ⟨p.2, by rw [← e]; exact hp⟩)))))
theorem nodup_inj {α : Type} : ∀ {l : List α} {i j : Nat} {x : α}, l.Nodup → l[i]? = some x → l[j]? = some x → i = j
  | [], i, j, x, _, h, _ => by simp at h
  | a :: l, 0, 0, x, _, _, _ => rfl
  | a :: l, 0, j + 1, x, nd, h, h2 => by
    obtain ⟨n1, _⟩ := List.nodup_cons.mp nd
    simp at h h2
    subst h
    exact absurd (List.mem_of_getElem? h2) n1
  | a :: l, i + 1, 0, x, nd, h, h2 => by
    obtain ⟨n1, _⟩ := List.nodup_cons.mp nd
    simp at h h2
    subst h2
    exact absurd (List.mem_of_getElem? h) n1
  | a :: l, i + 1, j + 1, x, nd, h, h2 => by
    obtain ⟨_, n2⟩ := List.nodup_cons.mp nd
    exact congrArg Nat.succ (nodup_inj n2 (by simpa using h) (by simpa using h2))
theorem modG {α : Type} (l : List α) (n i : Nat) (f : α → α) : (l.modify n f)[i]? = if n = i then (l[i]?).map f else l[i]? := by
  rw [List.getElem?_modify]
  by_cases e : n = i
  · subst e
    cases l[n]? <;> simp
  · cases l[i]? <;> simp [e]
/-- a lease is given back -/
theorem StoreAt.back (h : StoreAt K H st) {n : Nat} {q dx : Addr} {l : Ls} {vo vc : V} (hn : st.lss[n]? = some (q, l)) (hq : H q = some (.ins (aLease K) dx (lsFs l vo vc l.ret))) (ho : Dv F0 H vo (.tup [.int l.host, .int l.inc])) (hc : Dv F0 H vc (kC l.cov)) :
    StoreAt K (upd H q (.ins (aLease K) dx (lsFs l vo vc true))) (retL st n) := by
  have mem := List.mem_of_getElem? hn
  have nad : st.ad ≠ q := fun e => (List.nodup_cons.mp h.nd).1 (List.mem_map.mpr ⟨(q, l), mem, e.symm⟩)
  have tk : ∀ a xs, H a = some (.tup xs) → upd H q (.ins (aLease K) dx (lsFs l vo vc true)) a = some (.tup xs) := tupF hq rfl
  have em : (retL st n).lss.map (·.1) = st.lss.map (·.1) := by
    show (st.lss.modify n _).map _ = _
    refine List.ext_getElem? fun i => ?_
    rw [List.getElem?_map, List.getElem?_map, modG]
    by_cases e : n = i
    · rw [if_pos e, Option.map_map]
      rfl
    · rw [if_neg e]
  have em2 : ((retL st n).lss.map fun p => V.ref p.1) = st.lss.map fun p => V.ref p.1 := by
    have z := congrArg (List.map V.ref) em
    rw [List.map_map, List.map_map] at z
    exact z
  have nd2 := (List.nodup_cons.mp h.nd).2
  constructor
  · show upd H q _ st.ad = _
    rw [upd_ne nad]
    exact h.ins
  · obtain ⟨zs, h1, h2⟩ := h.cm
    exact ⟨zs, by show upd H q _ st.cm = _; rw [upd_ne (neC h1 hq nIL.symm)]; exact h1, imA imm_kCm h2 tk⟩
  · rw [em2]
    show upd H q _ st.gr = _
    rw [upd_ne (neC h.gr hq nIL.symm)]
    exact h.gr
  · obtain ⟨zs, h1, h2⟩ := h.wt
    exact ⟨zs, by show upd H q _ st.wt = _; rw [upd_ne (neC h1 hq nIL.symm)]; exact h1, imA imm_kWt h2 tk⟩
  · obtain ⟨kvs, h1, h2⟩ := h.wr
    exact ⟨kvs, by show upd H q _ st.wr = _; rw [upd_ne (neC h1 hq nIT.symm)]; exact h1, h2⟩
  · intro p hp
    obtain ⟨i, hi⟩ := List.mem_iff_getElem?.mp hp
    have hi2 : (st.lss.modify n fun p => (p.1, { p.2 with ret := true }))[i]? = some p := hi
    rw [modG] at hi2
    by_cases e : n = i
    · rw [if_pos e, ← e, hn] at hi2
      have e2 := Option.some.inj hi2
      rw [← e2]
      exact ⟨dx, vo, vc, upd_same, ho.cast tk rfl, hc.cast tk rfl⟩
    · rw [if_neg e] at hi2
      have hi3 : st.lss[i]? = some p := hi2
      refine (h.ls p (List.mem_of_getElem? hi3)).keep (fun o z => ?_) tk
      rw [upd_ne fun y => ?_, z]
      have a1 : (st.lss.map (·.1))[i]? = some p.1 := by rw [List.getElem?_map, hi3]; rfl
      have a2 : (st.lss.map (·.1))[n]? = some q := by rw [List.getElem?_map, hn]; rfl
      obtain ⟨b1, c1⟩ := List.getElem?_eq_some_iff.mp a1
      obtain ⟨b2, c2⟩ := List.getElem?_eq_some_iff.mp a2
      exact e (nodup_inj nd2 a2 (by rw [a1, y]))
  · exact h.n1
  · exact h.n2
  · exact h.n3
  · show (st.ad :: (retL st n).lss.map (·.1)).Nodup
    rw [em]
    exact h.nd
end
end Le

namespace Le
open PySem PySem.Spec PyProof.Rows L2
local macro_rules | `(tactic| wtm_at "ev1") => `(tactic| first
  | with_reducible exact ev_int | with_reducible exact ev_str | with_reducible exact ev_bl | with_reducible exact ev_non
  | with_reducible apply ev_var | with_reducible apply ev_op | with_reducible apply ev_chain
  | with_reducible apply ev_and | with_reducible apply ev_or | with_reducible apply ev_not
  | with_reducible apply et_and | with_reducible apply et_or | with_reducible apply et_not | with_reducible apply et_test | with_reducible apply et_B | with_reducible apply et_tru
  | with_reducible apply ev_if
  | with_reducible apply ev_tup | with_reducible apply ev_lst | with_reducible apply ea_cons | with_reducible exact ea_nil | with_reducible apply ev_cb
  | with_reducible exact rv_add | with_reducible exact rv_sub | with_reducible exact rv_lt | with_reducible exact rv_le | with_reducible exact rv_gt | with_reducible exact rv_ge
  | with_reducible exact rv_S | with_reducible exact rv_eqS | with_reducible exact rv_neS | with_reducible exact rv_eqI | with_reducible exact rv_neI | with_reducible exact rv_isN | with_reducible exact rv_notN | with_reducible exact rv_isB
  | with_reducible apply rv_ixT | with_reducible apply rv_ixL
  | with_reducible exact rc_lenL | with_reducible exact rc_lenT | with_reducible exact rc_list | with_reducible exact rc_tuple | with_reducible exact rc_intI | with_reducible exact rc_intB | with_reducible exact rc_min | with_reducible exact rc_max
  | wtm_at "evc"
  | (with_reducible apply dv_id; assumption) | (with_reducible apply dv_mono; assumption) | with_reducible apply dv_pin
  | (with_reducible intro _) | (with_reducible apply at_id; assumption) | exact rfl | (with_reducible apply le_id; exact Nat.le_of_ble_eq_true rfl))
local macro_rules | `(tactic| wtm_at "ev") => `(tactic| repeat' (wtm_at "ev1"))
local macro_rules | `(tactic| wtm_at "jj") => `(tactic| first | assumption | exact Ext.j (by assumption))
local macro_rules | `(tactic| wtm_at "evc") => `(tactic| first | with_reducible apply ev_contains | with_reducible apply ev_includes | with_reducible apply ev_touches | with_reducible apply ev_cover_of | with_reducible apply ev_w_cover_of | with_reducible apply ev_w_within | with_reducible apply ev_w_touches | with_reducible apply ev_least_record | with_reducible apply ev_selected | with_reducible apply ev_w_rows | with_reducible apply ev_ask | with_reducible apply ev_w_ask | with_reducible apply ev_apply | with_reducible apply ev_at | with_reducible apply ev_w_at | with_reducible apply ev_results | with_reducible apply ev_w_results | with_reducible apply ev_is_answer_at | with_reducible apply ev_is_true_at | with_reducible apply ev_is_true | with_reducible apply ev_w_is_true | with_reducible apply ev_supports_newest | with_reducible apply ev_supports | with_reducible apply ev_w_supports | with_reducible apply ev_accepts | with_reducible apply ev_w_accepts | with_reducible apply ev_w_is_right | with_reducible apply ev_w_reach | with_reducible apply ev_w_mix | with_reducible apply ev_w_number | with_reducible apply ev_w_is_integer | with_reducible apply ev_w_tells)
theorem up2 {H : Hp} {x p : Addr} {o o' : HO} (ne : p ≠ x) : (∀ b, b ≠ x → b ≠ p → upd (upd H p o) x o' b = H b) ∧ upd (upd H p o) x o' p = some o ∧ upd (upd H p o) x o' x = some o' :=
  ⟨fun b h1 h2 => by rw [upd_ne h1, upd_ne h2], by rw [upd_ne ne, upd_same], upd_same⟩
theorem Chg.upO {st st' : Sto} {H : Hp} {p : Addr} {o u : HO} (ho : own st p) (h : H p = some o) (ht : isTup o = false) (e : ∀ a, own st' a ↔ own st a) : Chg st st' H (upd H p u) :=
  ⟨fun a x n q => by rw [upd_ne fun z => n (by rw [z]; exact ho)]; exact q, tupF h ht, fun a z => Or.inl ((e a).mp z), fun a z => (e a).mpr z⟩
theorem s_dputTS {K : PySem.W.Frag} {σ : L2.St} {H : Hp} {tv tk : TE} {d : D} {a p C dx : Addr} {fs : List (Str × V)} {kvs : List (List L2.Key × V)} {k : Int × Int × Int} {i : Nat} {f : Str} {D' : Ends} {u : TS} (hv : Ev F0 tv σ H d) (h : σ[i]? = some (some (.ref a))) (hi : H a = some (.ins C dx fs)) (hc : Cls K C) (hn : NoAttr K C f)
    (hl : fs.lookup f = some (.ref p)) (hp : H p = some (.dT kvs)) (hk : Ev F0 tk σ H (.tup [.int k.1, .int k.2.1, .int k.2.2])) (hz : kvs.length < 100000) (kk : ∀ v H2, Same H H2 → u D' σ (upd H2 p (.dT (putK kvs (kkW k) v)))) : tSeq (sDPut (tFld K (tVar i) f) tk tv) u D' σ H := by
  show tv σ H fun v H1 => tFld K (tVar i) f σ H1 fun x H2 => tk σ H2 fun y H3 => ∃ a H4, x = .ref a ∧ DPut H3 a y v H4 ∧ u D' σ H4
  refine hv.use trivial fun v H1 e1 hv1 => t_fld h (e1.of0 _ _ hi) hc hn hl ((hk.mono e1).use trivial fun y H3 e3 hy => ?_)
  obtain ⟨b, ys, rfl, hb, hd⟩ := hy.tup_inv
  obtain ⟨y1, y2, y3, rfl, h1, h2, h3⟩ := hd.three
  cases h1.int_inv
  cases h2.int_inv
  cases h3.int_inv
  exact ⟨p, _, rfl, DPut.t (k := kkW k) (e3.of0 _ _ (e1.of0 _ _ hp)) hb (sz_lt hz), kk v H3 (L2.Same.trans e1.of0 e3.of0)⟩
section
variable {P : Program} {w : World} {K : PySem.W.Frag} {mg : Str → Option Value} {base : Heap}
theorem sc_L_init : FnScope ["self", "owner", "request", "cover", "until", "moment", "time"] ["self", "owner", "request", "cover", "until", "moment", "time"] d_L_init.scope := ⟨rfl, rfl, rfl, by decide +kernel, rfl, by decide +kernel, by decide +kernel⟩
theorem g_L_init (T : Tx K mg)  : GoodI P w K mg base 1 (aLease K) "Lease" ["self", "owner", "request", "cover", "until", "moment", "time"] (sp_L_init K) := by
  refine good_init (D_L_init T.c) (He.mkr_ok (F_k_Lease T.c)) (T.glo _ (F_g_Lease T.c)) (fun _ _ _ _ _ _ us hl => match us, hl with | [_, _, _, _, _, _, _], _ => rfl) sc_L_init (fun vs H Q E ⟨_, _, _, _, _, h, _⟩ => by rw [h]; rfl) ⟨_, fun f cdv A outer s H E hr =>
    (pss_cons (k_sfld (K := K) rfl (pv 0) (pv 1) rfl)
      (pss_cons (k_sfld (K := K) rfl (pv 0) (pv 2) rfl)
      (pss_cons (k_sfld (K := K) rfl (pv 0) (pv 3) rfl)
      (pss_cons (k_sfld (K := K) rfl (pv 0) (pv 4) rfl)
      (pss_cons (k_sfld (K := K) rfl (pv 0) (pv 5) rfl)
      (pss_cons (k_sfld (K := K) rfl (pv 0) (pv 6) rfl)
      (pss_one (k_sfld (K := K) rfl (pv 0) pe_bl rfl)))))))), ?_⟩
  rintro vs H Q E ⟨x, dx, vo, vc, l, rfl, hx, kk⟩
  apply s_fldS rfl rfl hx (cL T) (He.noat_ok (F_n_L_owner T.c)) (Nat.le_of_ble_eq_true rfl)
  apply s_fldS rfl rfl upd_same (cL T) (He.noat_ok (F_n_L_request T.c)) (Nat.le_of_ble_eq_true rfl)
  apply s_fldS rfl rfl upd_same (cL T) (He.noat_ok (F_n_L_cover T.c)) (Nat.le_of_ble_eq_true rfl)
  apply s_fldS rfl rfl upd_same (cL T) (He.noat_ok (F_n_L_until T.c)) (Nat.le_of_ble_eq_true rfl)
  apply s_fldS rfl rfl upd_same (cL T) (He.noat_ok (F_n_L_moment T.c)) (Nat.le_of_ble_eq_true rfl)
  apply s_fldS rfl rfl upd_same (cL T) (He.noat_ok (F_n_L_time T.c)) (Nat.le_of_ble_eq_true rfl)
  apply s_fldB rfl upd_same (cL T) (He.noat_ok (F_n_L_is_returned T.c)) (Nat.le_of_ble_eq_true rfl)
  refine kk _ upd_same fun b hb => ?_
  rw [upd_ne hb, upd_ne hb, upd_ne hb, upd_ne hb, upd_ne hb, upd_ne hb, upd_ne hb]
theorem sc_S_init : FnScope ["self", "host_count", "lease_length"] ["self", "host_count", "lease_length"] d_S_init.scope := ⟨rfl, rfl, rfl, by decide +kernel, rfl, by decide +kernel, by decide +kernel⟩
theorem g_S_init (T : Tx K mg)  : GoodI P w K mg base 1 (aStore K) "Store" ["self", "host_count", "lease_length"] (sp_S_init K) := by
  refine good_init (D_S_init T.c) (He.mkr_ok (F_k_Store T.c)) (T.glo _ (F_g_Store T.c)) (fun _ _ _ _ _ _ us hl => match us, hl with | [_, _, _], _ => rfl) sc_S_init (fun vs H Q E ⟨_, _, _, h, _⟩ => by rw [h]; rfl) ⟨_, fun f cdv A outer s H E hr =>
    (pss_cons (k_sfld (K := K) rfl (pv 0) (pv 1) rfl)
      (pss_cons (k_sfld (K := K) rfl (pv 0) (pv 2) rfl)
      (pss_cons (k_sfld (K := K) rfl (pv 0) (pe_lst pa_nil) rfl)
      (pss_cons (k_sfld (K := K) rfl (pv 0) (pe_lst pa_nil) rfl)
      (pss_cons (k_sfld (K := K) rfl (pv 0) (pe_lst pa_nil) rfl)
      (pss_cons (k_sfld (K := K) rfl (pv 0) pe_dnewT rfl)
      (pss_one (k_sfld (K := K) rfl (pv 0) pe_bl rfl)))))))), ?_⟩
  rintro vs H Q E ⟨x, dx, len, rfl, hx, kk⟩
  apply s_fldS rfl rfl hx (cS T) (He.noat_ok (F_n_S_host_count T.c)) (Nat.le_of_ble_eq_true rfl)
  apply s_fldS rfl rfl upd_same (cS T) (He.noat_ok (F_n_S_lease_length T.c)) (Nat.le_of_ble_eq_true rfl)
  rw [upd_upd]
  generalize e0 : upd H x _ = H0
  have h0 : ∀ b, b ≠ x → H0 b = H b := fun b hb => by rw [← e0, upd_ne hb]
  have x0 : H0 x = some (.ins (aStore K) dx [("host_count", .int 2), ("lease_length", .int len)]) := by
    rw [← e0]
    exact upd_same
  clear e0
  apply s_fldNewS rfl x0 (cS T) (He.noat_ok (F_n_S_commits T.c)) (Nat.le_of_ble_eq_true rfl)
  intro p1 n1 m1
  obtain ⟨k1, q1, r1⟩ := up2 (H := H0) (o := .lst []) (o' := .ins (aStore K) dx [("host_count", .int 2), ("lease_length", .int len), ("commits", .ref p1)]) m1
  apply s_fldNewS rfl r1 (cS T) (He.noat_ok (F_n_S_granted T.c)) (Nat.le_of_ble_eq_true rfl)
  intro p2 n2 m2
  obtain ⟨k2, q2, r2⟩ := up2 (H := upd (upd H0 p1 (.lst [])) x (.ins (aStore K) dx [("host_count", .int 2), ("lease_length", .int len), ("commits", .ref p1)])) (o := .lst []) (o' := .ins (aStore K) dx [("host_count", .int 2), ("lease_length", .int len), ("commits", .ref p1), ("granted", .ref p2)]) m2
  generalize upd (upd H0 p1 (.lst [])) x (.ins (aStore K) dx [("host_count", .int 2), ("lease_length", .int len), ("commits", .ref p1)]) = H1 at *
  apply s_fldNewS rfl r2 (cS T) (He.noat_ok (F_n_S_waiting T.c)) (Nat.le_of_ble_eq_true rfl)
  intro p3 n3 m3
  obtain ⟨k3, q3, r3⟩ := up2 (H := upd (upd H1 p2 (.lst [])) x (.ins (aStore K) dx [("host_count", .int 2), ("lease_length", .int len), ("commits", .ref p1), ("granted", .ref p2)])) (o := .lst []) (o' := .ins (aStore K) dx [("host_count", .int 2), ("lease_length", .int len), ("commits", .ref p1), ("granted", .ref p2), ("waiting", .ref p3)]) m3
  generalize upd (upd H1 p2 (.lst [])) x (.ins (aStore K) dx [("host_count", .int 2), ("lease_length", .int len), ("commits", .ref p1), ("granted", .ref p2)]) = H2 at *
  apply s_fldNewTS rfl r3 (cS T) (He.noat_ok (F_n_S_written T.c)) (Nat.le_of_ble_eq_true rfl)
  intro p4 n4 m4
  obtain ⟨k4, q4, r4⟩ := up2 (H := upd (upd H2 p3 (.lst [])) x (.ins (aStore K) dx [("host_count", .int 2), ("lease_length", .int len), ("commits", .ref p1), ("granted", .ref p2), ("waiting", .ref p3)])) (o := .dT []) (o' := .ins (aStore K) dx [("host_count", .int 2), ("lease_length", .int len), ("commits", .ref p1), ("granted", .ref p2), ("waiting", .ref p3), ("written", .ref p4)]) m4
  generalize upd (upd H2 p3 (.lst [])) x (.ins (aStore K) dx [("host_count", .int 2), ("lease_length", .int len), ("commits", .ref p1), ("granted", .ref p2), ("waiting", .ref p3)]) = H3 at *
  apply s_fldB rfl r4 (cS T) (He.noat_ok (F_n_S_running T.c)) (Nat.le_of_ble_eq_true rfl)
  generalize upd (upd H3 p4 (.dT [])) x (.ins (aStore K) dx [("host_count", .int 2), ("lease_length", .int len), ("commits", .ref p1), ("granted", .ref p2), ("waiting", .ref p3), ("written", .ref p4)]) = H4 at *
  have d12 : p1 ≠ p2 := ne_of_none q1 n2
  have a1 : H2 p1 = some (.lst []) := (k2 p1 m1 d12).trans q1
  have d13 : p1 ≠ p3 := ne_of_none a1 n3
  have d23 : p2 ≠ p3 := ne_of_none q2 n3
  have b1 : H3 p1 = some (.lst []) := (k3 p1 m1 d13).trans a1
  have b2 : H3 p2 = some (.lst []) := (k3 p2 m2 d23).trans q2
  have d14 : p1 ≠ p4 := ne_of_none b1 n4
  have d24 : p2 ≠ p4 := ne_of_none b2 n4
  have d34 : p3 ≠ p4 := ne_of_none q3 n4
  have c1 : H4 p1 = some (.lst []) := (k4 p1 m1 d14).trans b1
  have c2 : H4 p2 = some (.lst []) := (k4 p2 m2 d24).trans b2
  have c3 : H4 p3 = some (.lst []) := (k4 p3 m3 d34).trans q3
  have s0 : ∀ b o, b ≠ x → H b = some o → H0 b = some o := fun b o hb h => (h0 b hb).trans h
  have s1 : ∀ b o, b ≠ x → H b = some o → H1 b = some o := fun b o hb h => (k1 b hb (ne_of_none (s0 b o hb h) n1)).trans (s0 b o hb h)
  have s2 : ∀ b o, b ≠ x → H b = some o → H2 b = some o := fun b o hb h => (k2 b hb (ne_of_none (s1 b o hb h) n2)).trans (s1 b o hb h)
  have s3 : ∀ b o, b ≠ x → H b = some o → H3 b = some o := fun b o hb h => (k3 b hb (ne_of_none (s2 b o hb h) n3)).trans (s2 b o hb h)
  have s4 : ∀ b o, b ≠ x → H b = some o → H4 b = some o := fun b o hb h => (k4 b hb (ne_of_none (s3 b o hb h) n4)).trans (s3 b o hb h)
  have nx : ∀ {p : Addr} {G : Hp}, p ≠ x → (∀ b o, b ≠ x → H b = some o → G b = some o) → G p = none → H p = none := fun {p G} hp hs hn => by
    cases z : H p with
    | none => rfl
    | some o =>
      rw [hs p o hp z] at hn
      cases hn
  refine kk _ ⟨x, dx, p1, p2, p3, p4, len, [], [], [], []⟩ rfl rfl rfl rfl rfl rfl ?_ (fun b o hb h => by rw [upd_ne hb]; exact s4 b o hb h) ?_
  · constructor
    · exact upd_same
    · exact ⟨[], by show upd H4 x _ p1 = _; rw [upd_ne m1]; exact c1, .nil⟩
    · show upd H4 x _ p2 = _
      rw [upd_ne m2]
      exact c2
    · exact ⟨[], by show upd H4 x _ p3 = _; rw [upd_ne m3]; exact c3, .nil⟩
    · exact ⟨[], by show upd H4 x _ p4 = _; rw [upd_ne m4]; exact q4, Nat.le_refl _, fun p hp => by cases hp⟩
    · intro p hp
      cases hp
    · exact d12
    · exact d13
    · exact d23
    · exact List.nodup_cons.mpr ⟨(fun z => by cases z), List.nodup_nil⟩
  · rintro b (rfl | rfl | rfl | rfl | rfl | ⟨l, hl⟩)
    · exact Or.inl rfl
    · exact Or.inr (nx m1 s0 n1)
    · exact Or.inr (nx m2 s1 n2)
    · exact Or.inr (nx m3 s2 n3)
    · exact Or.inr (nx m4 s3 n4)
    · cases hl
theorem sc_S_commit : FnScope ["self", "waiting", "time", "host", "incarnation", "number", "group", "letters", "other"] ["self", "waiting", "time"] d_S_commit.scope := ⟨rfl, rfl, rfl, by decide +kernel, rfl, by decide +kernel, by decide +kernel⟩
theorem g_S_commit (T : Tx K mg) (G_S_moment : GoodM P w K mg base 1 (aStore K) "moment" ["self"] (sp_S_moment K)) (G_S_note : GoodM P w K mg base 1 (aStore K) "note" ["self", "host", "number"] (sp_S_note K)) : GoodM P w K mg base 2 (aStore K) "commit" ["self", "waiting", "time"] (sp_S_commit K) := by
  refine good_meth (C := "Store") (He.cls_ok (F_c_Store T.c)) (D_S_commit T.c) (He.meth_ok (F_m_S_commit T.c)) (fun _ _ _ _ _ _ us hl => match us, hl with | [_, _, _], _ => rfl) sc_S_commit (fun vs H Q E ⟨_, _, _, _, h, _⟩ => by rw [h]; rfl) ⟨_, fun f cdv A outer s H E hr =>
    (pss_cons (ps_asg (pv 1) (k_pg_tup (K := K) (n := 4) rfl rfl (pgs_cons (pg_name (i := 3) sc_S_commit.nd rfl (Or.inl rfl)) (pgs_cons (pg_name (i := 4) sc_S_commit.nd rfl (Or.inl rfl)) (pgs_cons (pg_name (i := 5) sc_S_commit.nd rfl (Or.inl rfl)) (pgs_cons (pg_name (i := 6) sc_S_commit.nd rfl (Or.inl rfl)) pgs_nil))))))
      (pss_cons (ps_expr (k_bm (K := K) rfl PySem.F.plainAttrs_list PySem.F.slot_list_append PySem.F.type_list_append mt_append (k_fld (K := K) rfl (pv 0) rfl) (pa_cons (pe_tup (pa_cons (pv 2) (pa_cons (pv 6) pa_nil))) pa_nil)))
      (pss_cons (ps_dput (hu_of hr) (k_fld (K := K) rfl (pv 0) rfl) (pe_tup (pa_cons (pv 3) (pa_cons (pv 4) (pa_cons (pv 5) pa_nil)))) (pe_tup (pa_cons (pe_m0G G_S_moment hr (pv 0)) (pa_cons (pv 2) pa_nil))) rfl)
      (pss_cons (ps_set (i := 7) sc_S_commit.nd rfl (Or.inl rfl) (pe_lst (pa_cons (pe_tup (pa_cons pe_str (pa_cons (pv 3) (pa_cons (pv 4) (pa_cons (pv 5) (pa_cons (pe_m0G G_S_moment hr (pv 0)) (pa_cons (pv 2) pa_nil))))))) pa_nil)))
      (pss_cons (ps_for PassesOwn.never rfl (pi_range1 (by rfl) (T.free _ (F_b_range T.c)) (pa_cons (k_fld (K := K) rfl (pv 0) rfl) pa_nil)) (pg_name (i := 8) sc_S_commit.nd rfl (Or.inl rfl)) (pss_one (ps_expr (k_bm (K := K) rfl PySem.F.plainAttrs_list PySem.F.slot_list_append PySem.F.type_list_append mt_append (pv 7) (pa_cons (pe_mG G_S_note hr (pv 0) (pa_cons (pv 8) (pa_cons (pe_m0G G_S_moment hr (pv 0)) pa_nil))) pa_nil)))))
      (pss_one (ps_ret (pv 7)))))))), ?_⟩
  rintro vs H Q E ⟨st, v, wt, time, rfl, hv, sa, l1, l2, kk⟩
  have vself : ∀ {H : Hp}, Dv F0 H (.ref st.ad) (.adr st.ad) := .adr _
  apply s_asgS (F := F0) (d := kWt wt) trivial (ev_var rfl hv)
  intro v2 H1 e1 hv1
  refine g_unp4 hv1 fun w1 w2 w3 w4 hw1 hw2 hw3 hw4 => ?_
  cases hw1.int_inv
  cases hw2.int_inv
  cases hw3.int_inv
  have sa1 : StoreAt K H1 st := sa.mono e1 Sro.F0
  obtain ⟨xs, hx, hd⟩ := sa1.cm
  have hti : Dv F0 H1 (.int time) (.int time) := .int _
  have lxs : xs.length < 100000 := by
    rw [hd.len, List.length_map]
    omega
  apply s_appFS ?_ sa1.ins (cS T) (He.noat_ok (F_n_S_commits T.c)) rfl hx (d := kCm (time, wt.gr)) ?_ lxs ?_
  · rfl
  · wtm_at "ev"
  intro v3 H2 s12 hv3
  have hx2 := s12 _ _ hx
  have sa2 : StoreAt K H2 st := sa1.mono (Ext.to0 s12) Sro.F0
  have sa3 := sa2.addCm hx2 (imA imm_kCm hd fun a ys q => s12 _ _ q) hv3
  have c3 : Chg st { st with cms := st.cms ++ [(time, wt.gr)] } H2 (upd H2 st.cm (.lst (xs ++ [v3]))) := Chg.upO (Or.inr (Or.inl rfl)) hx2 rfl fun a => Iff.rfl
  have c03 : Chg st { st with cms := st.cms ++ [(time, wt.gr)] } H (upd H2 st.cm (.lst (xs ++ [v3]))) := ((Chg.same e1.of0).trans (Chg.same s12)).trans c3
  have hw43 := (hw4.mono (Ext.to0 s12)).cast (F' := F0) c3.t (imm_kG wt.gr)
  generalize upd H2 st.cm (.lst (xs ++ [v3])) = H3 at *
  generalize hst3 : ({ st with cms := st.cms ++ [(time, wt.gr)] } : Sto) = st3 at *
  have ad3 : st3.ad = st.ad := by rw [← hst3]
  have wr3 : st3.wr = st.wr := by rw [← hst3]
  have wk3 : st3.wks = st.wks := by rw [← hst3]
  have cm3 : st3.cms = st.cms ++ [(time, wt.gr)] := by rw [← hst3]
  obtain ⟨kvs, hkv, hkl, hkk⟩ := sa3.wr
  have ins3 := sa3.ins
  rw [ad3] at ins3
  have lk : kvs.length < 100000 := by
    rw [wk3] at hkl
    omega
  apply s_dputTS (k := keyW wt) (d := .tup [.int (st3.cms.length : Nat), .int time]) ?_ ?_ ins3 (cS T) (He.noat_ok (F_n_S_written T.c)) rfl hkv ?_ lk ?_
  · refine ev_tup (ea_cons (ev_moment ⟨Sro.F0, sa3⟩ (ev_var rfl (by rw [ad3]; exact vself))) (ea_cons (ev_var rfl (.int _)) ea_nil)) (Nat.le_of_ble_eq_true rfl)
  · rfl
  · exact ev_tup (ea_cons (ev_var rfl (.int _)) (ea_cons (ev_var rfl (.int _)) (ea_cons (ev_var rfl (.int _)) ea_nil))) (Nat.le_of_ble_eq_true rfl)
  intro v6 H6 s36
  have sa6 := sa3.mono (Ext.to0 s36) Sro.F0
  have sa7 := sa6.putWr (v := v6) (k := keyW wt) (s36 _ _ hkv) hkl hkk
  have c7 : Chg st3 { st3 with wks := st3.wks ++ [keyW wt] } H6 (upd H6 st3.wr (.dT (putK kvs (kkW (keyW wt)) v6))) := Chg.upO (Or.inr (Or.inr (Or.inr (Or.inr (Or.inl rfl))))) (s36 _ _ hkv) rfl fun a => Iff.rfl
  have c07 := (c03.trans (Chg.same s36)).trans c7
  generalize upd H6 st3.wr (.dT (putK kvs (kkW (keyW wt)) v6)) = H7 at *
  have est : ({ st3 with wks := st3.wks ++ [keyW wt] } : Sto) = commitF st wt time := by
    rw [← hst3]
    rfl
  rw [est] at sa7 c07
  have ad7 : (commitF st wt time).ad = st.ad := rfl
  have n7 : (commitF st wt time).cms.length = st.cms.length + 1 := by
    show (st.cms ++ [(time, wt.gr)]).length = _
    rw [List.length_append]
    rfl
  generalize commitF st wt time = st7 at *
  have p7 : preS K F0 H7 st7 := ⟨Sro.F0, sa7⟩
  apply s_setNS (F := F0) (ds := [.tup [.str "written", .int wt.host, .int wt.inc, .int wt.num, .int (st7.cms.length : Nat), .int time]]) trivial
  · refine en_lst (ea_cons (ev_tup (ea_cons ev_str (ea_cons (ev_var rfl (.int _)) (ea_cons (ev_var rfl (.int _)) (ea_cons (ev_var rfl (.int _)) (ea_cons (ev_moment p7 (ev_var rfl (by rw [ad7]; exact vself))) (ea_cons (ev_var rfl (.int _)) ea_nil)))))) (Nat.le_of_ble_eq_true rfl)) ea_nil) (Nat.le_of_ble_eq_true rfl)
  intro p H8 xs8 hp e8 hp8 hd8
  have l8 : xs8.length = 1 := hd8.len
  have jp : (F0.pin p (.lst xs8)).J H8 := ⟨trivial, fun z => z, hp8, rfl⟩
  have sr : Sro (F0.add p) st7 := Sro.F0.add sa7 hp
  have p8 : preS K (F0.add p) H8 st7 := ⟨sr, (preS.mono e8 p7).2⟩
  apply s_forRSp (F := F0.add p) (n := 2) Le1.pin jp (Pv := fun i σ' H' => ∃ a xs, σ' = [some (.ref st.ad), some v, some (.int time), some (.int wt.host), some (.int wt.inc), some (.int wt.num), some w4, some (.ref p), a] ∧ H' p = some (.lst xs) ∧ List.length xs ≤ 1 + i)
  · exact ev_hc T p8.2 (F := F0.pin p (.lst xs8)) sr (ev_var rfl (by rw [ad7]; exact .adr _))
  · decide
  · decide
  · exact fun H9 e9 => ⟨none, xs8, rfl, e9.at_, by omega⟩
  · rintro i σ' H' hi e' ⟨a, xs, rfl, hx, hl⟩
    have jq := pin_j e'.j hx rfl
    have pq : preS K (F0.pin p (.lst xs)) H' st7 := preS.pin (preS.mono e' p8)
    have hi2 : i < 2 := hi
    have adv : ∀ {G}, Dv (F0.pin p (.lst xs)) G (.ref st.ad) (.adr st7.ad) := by
      intro G
      rw [ad7]
      exact .adr _
    apply s_appC jq rfl (ec_note (h := (i : Int)) (n := (st7.cms.length : Nat)) pq (ev_var rfl adv) (ea_cons (ev_var rfl (.int _)) (ea_cons (ev_moment pq (ev_var rfl adv)) ea_nil)) (by omega) (by omega))
    · omega
    · intro v9 H9 d9 e9 _ _
      exact ⟨e9.put rfl, _, _, rfl, upd_same, by rw [List.length_append]; show List.length xs + 1 ≤ 1 + (i + 1); omega⟩
  · rintro σ' H' e' ⟨a, xs, rfl, hx, hl⟩
    have hl2 : List.length xs ≤ 1 + 2 := hl
    have s78 : Same H7 H' := fun b o q => e'.k b o (fun z => z.elim id fun y => by rw [y, hp] at q; cases q) (e8.of0 _ _ q)
    have c0e := c07.trans (Chg.same s78)
    refine ⟨_, rfl, kk p xs H' (preS.mono e' p8).2 c0e (c07.free hp sa7) (fun z => ?_) hx (by omega)⟩
    obtain ⟨o, h1, _⟩ := sa7.live z
    rw [hp] at h1
    cases h1
end
end Le

namespace Le
open PySem PySem.Spec PyProof.Rows L2
local macro_rules | `(tactic| wtm_at "ev1") => `(tactic| first
  | with_reducible exact ev_int | with_reducible exact ev_str | with_reducible exact ev_bl | with_reducible exact ev_non
  | with_reducible apply ev_var | with_reducible apply ev_op | with_reducible apply ev_chain
  | with_reducible apply ev_and | with_reducible apply ev_or | with_reducible apply ev_not
  | with_reducible apply et_and | with_reducible apply et_or | with_reducible apply et_not | with_reducible apply et_test | with_reducible apply et_B | with_reducible apply et_tru
  | with_reducible apply ev_if
  | with_reducible apply ev_tup | with_reducible apply ev_lst | with_reducible apply ea_cons | with_reducible exact ea_nil | with_reducible apply ev_cb
  | with_reducible exact rv_add | with_reducible exact rv_sub | with_reducible exact rv_lt | with_reducible exact rv_le | with_reducible exact rv_gt | with_reducible exact rv_ge
  | with_reducible exact rv_S | with_reducible exact rv_eqS | with_reducible exact rv_neS | with_reducible exact rv_eqI | with_reducible exact rv_neI | with_reducible exact rv_isN | with_reducible exact rv_notN | with_reducible exact rv_isB
  | with_reducible apply rv_ixT | with_reducible apply rv_ixL
  | with_reducible exact rc_lenL | with_reducible exact rc_lenT | with_reducible exact rc_list | with_reducible exact rc_tuple | with_reducible exact rc_intI | with_reducible exact rc_intB | with_reducible exact rc_min | with_reducible exact rc_max
  | wtm_at "evc"
  | (with_reducible apply dv_id; assumption) | (with_reducible apply dv_mono; assumption) | with_reducible apply dv_pin
  | (with_reducible intro _) | (with_reducible apply at_id; assumption) | exact rfl | (with_reducible apply le_id; exact Nat.le_of_ble_eq_true rfl))
local macro_rules | `(tactic| wtm_at "ev") => `(tactic| repeat' (wtm_at "ev1"))
local macro_rules | `(tactic| wtm_at "jj") => `(tactic| first | assumption | exact Ext.j (by assumption))
local macro_rules | `(tactic| wtm_at "evc") => `(tactic| first | with_reducible apply ev_contains | with_reducible apply ev_includes | with_reducible apply ev_touches | with_reducible apply ev_cover_of | with_reducible apply ev_w_cover_of | with_reducible apply ev_w_within | with_reducible apply ev_w_touches | with_reducible apply ev_least_record | with_reducible apply ev_selected | with_reducible apply ev_w_rows | with_reducible apply ev_ask | with_reducible apply ev_w_ask | with_reducible apply ev_apply | with_reducible apply ev_at | with_reducible apply ev_w_at | with_reducible apply ev_results | with_reducible apply ev_w_results | with_reducible apply ev_is_answer_at | with_reducible apply ev_is_true_at | with_reducible apply ev_is_true | with_reducible apply ev_w_is_true | with_reducible apply ev_supports_newest | with_reducible apply ev_supports | with_reducible apply ev_w_supports | with_reducible apply ev_accepts | with_reducible apply ev_w_accepts | with_reducible apply ev_w_is_right | with_reducible apply ev_w_reach | with_reducible apply ev_w_mix | with_reducible apply ev_w_number | with_reducible apply ev_w_is_integer | with_reducible apply ev_w_tells)
theorem Chg.updNew {st st' : Sto} {H H1 : Hp} {p : Addr} {u : HO} (c : Chg st st' H H1) (hp : H p = none) : Chg st st' H (upd H1 p u) :=
  ⟨fun a o n h => by rw [upd_ne (ne_of_none h hp)]; exact c.k a o n h, fun a xs h => by rw [upd_ne (ne_of_none h hp)]; exact c.t a xs h, c.n, c.m⟩
theorem settle_nil {st : Sto} {time : Int} (h : st.wts = []) : settleF time st = st := by
  unfold settleF
  rw [h]
  show { st with wts := [] } = st
  rw [← h]
theorem settle_held {st : Sto} {time : Int} {wt : Wt} {r : List Wt} (h : st.wts = wt :: r) (hh : heldF st wt.gr time = true) : settleF time st = st := by
  unfold settleF
  rw [h]
  show (if heldF st wt.gr time = true then { st with wts := wt :: r } else _) = st
  rw [if_pos hh, ← h]
theorem settle_go {st : Sto} {time : Int} {wt : Wt} {r : List Wt} (h : st.wts = wt :: r) (hh : heldF st wt.gr time = false) : settleF time st = settleF time (commitF { st with wts := r } wt time) := by
  unfold settleF
  rw [h]
  show (if heldF st wt.gr time = true then { st with wts := wt :: r } else settleW time r (commitF { st with wts := r } wt time)) = _
  rw [hh]
  exact if_neg Bool.false_ne_true
theorem own_commit {st : Sto} {wt : Wt} {r : List Wt} {time : Int} {a : Addr} : own (commitF { st with wts := r } wt time) a ↔ own st a := Iff.rfl
section
variable {P : Program} {w : World} {K : PySem.W.Frag} {mg : Str → Option Value} {base : Heap}
theorem sc_S_settle : FnScope ["self", "time", "letters"] ["self", "time"] d_S_settle.scope := ⟨rfl, rfl, rfl, by decide +kernel, rfl, by decide +kernel, by decide +kernel⟩
theorem g_S_settle (T : Tx K mg) (G_S_moment : GoodM P w K mg base 1 (aStore K) "moment" ["self"] (sp_S_moment K)) (G_S_is_held_up : GoodM P w K mg base 3 (aStore K) "is_held_up" ["self", "group", "time"] (sp_S_is_held_up K)) (G_S_commit : GoodM P w K mg base 2 (aStore K) "commit" ["self", "waiting", "time"] (sp_S_commit K)) : GoodM P w K mg base 4 (aStore K) "settle" ["self", "time"] (sp_S_settle K) := by
  obtain ⟨tMax, hMax⟩ := T.int _ _ (F_i_MAX T.c)
  refine good_meth (C := "Store") (He.cls_ok (F_c_Store T.c)) (D_S_settle T.c) (He.meth_ok (F_m_S_settle T.c)) (fun _ _ _ _ _ _ us hl => match us, hl with | [_, _], _ => rfl) sc_S_settle (fun vs H Q E ⟨_, _, h, _⟩ => by rw [h]; rfl) ⟨_, fun f cdv A outer s H E hr =>
    (pss_cons (ps_set (i := 2) sc_S_settle.nd rfl (Or.inl rfl) (pe_lst pa_nil))
      (pss_cons (ps_if (pt_not (pt_val (k_fld (K := K) rfl (pv 0) rfl))) (pss_one (ps_ret (pv 2))) pss_nil)
      (pss_cons (ps_while PassesOwn.never (PW.pt (pw_and (k_tru (K := K) rfl (k_fld (K := K) rfl (pv 0) rfl)) (pw_and1 (pt_cmpR op_lt (pe_m0G G_S_moment (hr.mono (by decide)) (pv 0)) (pe_glob (v := .int 200) rfl hMax ⟨_, rfl⟩) (nomark _))))) (pss_cons (ps_if (pt_val (pe_mG G_S_is_held_up hr (pv 0) (pa_cons (pe_ix (k_ix_tup (K := K) rfl) (pe_ix (k_ix_list (K := K) rfl) (k_fld (K := K) rfl (pv 0) rfl) pe_int (fun _ _ => rfl)) pe_int (fun _ _ => rfl)) (pa_cons (pv 1) pa_nil)))) (pss_one (ps_ret (pv 2))) pss_nil)
      (pss_one (ps_expr (k_bm (K := K) rfl PySem.F.plainAttrs_list PySem.F.slot_list_extend PySem.F.type_list_extend mt_extend (pv 2) (pa_cons (pe_mG G_S_commit (hr.mono (by decide)) (pv 0) (pa_cons (k_bm (K := K) rfl PySem.F.plainAttrs_list PySem.F.slot_list_pop PySem.F.type_list_pop mt_popAt (k_fld (K := K) rfl (pv 0) rfl) (pa_cons pe_int pa_nil)) (pa_cons (pv 1) pa_nil))) pa_nil))))))
      (pss_one (ps_ret (pv 2)))))), ?_⟩
  rintro vs H Q E ⟨st, time, rfl, sa, ok, kk⟩
  refine s_newS (F := F0) trivial fun p hp jp => ?_
  have np : ¬ own st p := fun z => by
    obtain ⟨o, h1, _⟩ := sa.live z
    rw [hp] at h1
    cases h1
  have s0 : Same H (upd H p (.lst [])) := same_new hp
  have sa0 : StoreAt K (upd H p (.lst [])) st := sa.mono (Ext.to0 s0) Sro.F0
  have fin : ∀ st' xs H', StoreAt K H' st' → Chg st st' H H' → settleF time st' = settleF time st → settleF time st' = st' → ¬ own st' p → H' p = some (.lst xs) → List.length xs ≤ 600 → tRet (tVar 2) { nx := fun _ H' => Q .non H', rt := Q } [some (.ref st.ad), some (.int time), some (.ref p)] H' := by
    intro st' xs H' sa' c' e1 e2 n' hx hl
    refine ⟨_, rfl, ?_⟩
    refine kk p xs H' ?_ ?_ hp ?_ hx hl
    · rw [← e1, e2]
      exact sa'
    · rw [← e1, e2]
      exact c'
    · rw [← e1, e2]
      exact n'
  apply s_ifFS (F := F0) (b := !true) trivial
  · exact et_not (et_B (ev_run T sa0 Sro.F0 (ev_var rfl (.adr _))))
  · rfl
  intro H2 e2
  have s2 := L2.Same.trans s0 e2.of0
  have okn := ok.n
  apply s_whileX (W := fun m σ' H' => σ' = [some (.ref st.ad), some (.int time), some (.ref p)] ∧ ∃ st' xs, StoreAt K H' st' ∧ Chg st st' H H' ∧ settleF time st' = settleF time st ∧ StOk st' ∧ st'.ad = st.ad ∧ m = st'.wts.length ∧ ¬ own st' p ∧ H' p = some (.lst xs) ∧ List.length xs + 3 * m ≤ 3 * st.wts.length) (m0 := st.wts.length)
  · exact ⟨rfl, st, [], sa0.mono e2 Sro.F0, Chg.same s2, rfl, ok, rfl, rfl, np, e2.of0 _ _ upd_same, by show 0 + 3 * _ ≤ _; omega⟩
  · rintro m σ' H' ⟨rfl, st', xs, sa', c', es, ok', ead, rfl, n', hx, hl⟩
    have okn' := ok'.n
    have okw' := ok'.w
    have adv : ∀ {G}, Dv F0 G (.ref st.ad) (.adr st'.ad) := by
      intro G
      rw [ead]
      exact .adr _
    refine ⟨(!(st'.wts.map kWt).isEmpty) && decide ((st'.cms.length : Int) < 200), ?_, ?_, ?_⟩
    · apply et_and
      · exact et_tru (ev_wts T sa' Sro.F0 (ev_var rfl adv)) rfl
      · intro _
        apply et_test
        exact ev_op (ev_moment ⟨Sro.F0, sa'⟩ (ev_var rfl adv)) ev_int rv_lt
    · intro hb H3 e3
      have sa3 := sa'.mono e3 Sro.F0
      have hx3 := e3.of0 _ _ hx
      obtain ⟨wt, r, ew⟩ : ∃ wt r, st'.wts = wt :: r := by
        cases ew : st'.wts with
        | nil =>
          rw [ew] at hb
          cases hb
        | cons wt r => exact ⟨wt, r, rfl⟩
      have evw : Ev F0 (tFld K (tVar 0) "waiting") [some (.ref st.ad), some (.int time), some (.ref p)] H3 (.lst (kWt wt :: r.map kWt)) := by
        have z := ev_wts T sa3 Sro.F0 (ev_var (i := 0) (σ := [some (.ref st.ad), some (.int time), some (.ref p)]) rfl adv)
        rw [ew] at z
        exact z
      apply s_ifS (F := F0) (b := heldF st' wt.gr time) trivial
      · apply et_B
        refine ev_held ⟨Sro.F0, sa3⟩ (ev_var rfl adv) (ea_cons (ev_op (ev_op evw ev_int (rv_ixL at0c)) ev_int (rv_ixT rfl)) (ea_cons (ev_var rfl (.int _)) ea_nil))
      · intro hh H4 e4
        exact fin st' xs H4 (sa3.mono e4 Sro.F0) (c'.trans (Chg.same (L2.Same.trans e3.of0 e4.of0))) es (settle_held ew hh) n' (e4.of0 _ _ hx3) (by omega)
      · intro hh H4 e4
        have sa4 := sa3.mono e4 Sro.F0
        have hx4 := e4.of0 _ _ hx3
        have c4 := c'.trans (Chg.same (L2.Same.trans e3.of0 e4.of0))
        obtain ⟨ys, hy, hd⟩ := sa4.wt
        rw [ew] at hd
        obtain ⟨y, yr, rfl, hy1, hy2⟩ := DvA.cons_inv hd
        have ins4 := sa4.ins
        rw [ead] at ins4
        have sa5 := sa4.setWt (ws := r) hy hy2
        have c5 : Chg st' { st' with wts := r } H4 (upd H4 st'.wt (.lst yr)) := ⟨fun a o n q => by
          rw [upd_ne fun z => n (by rw [z]; exact Or.inr (Or.inr (Or.inr (Or.inl rfl))))]
          exact q, tupF hy rfl, fun a z => Or.inl z, fun a z => z⟩
        have tk5 := tupF (u := .lst yr) hy rfl
        have hx5 : upd H4 st'.wt (.lst yr) p = some (.lst xs) := by
          rw [upd_ne fun z => n' (by rw [z]; exact Or.inr (Or.inr (Or.inr (Or.inl rfl))))]
          exact hx4
        have wl : st'.wts.length = r.length + 1 := by rw [ew]; rfl
        refine ⟨_, rfl, Or.inl ⟨rfl, _, SqL.of hx4⟩, ?_⟩
        refine ⟨_, rfl, st.ad, _, _, rfl, ins4, rfl, ?_⟩
        refine ⟨_, rfl, st.ad, _, _, _, .ref st'.wt, rfl, ins4, cS T, He.noat_ok (F_n_S_waiting T.c), rfl, Or.inl ⟨rfl, _, SqL.of hy⟩, ?_⟩
        refine ⟨st'.wt, _, 0, 0, y, rfl, rfl, hy, by decide, by decide, ?_, rfl, ?_⟩
        · show (if _ then _ else _) = _
          simp
        refine ⟨_, rfl, ?_⟩
        refine ⟨{ st' with wts := r }, y, wt, time, ?_, hy1.cast tk5 (imm_kWt wt), sa5, ?_, ?_, ?_⟩
        · show [V.ref st.ad, y, .int time] = [V.ref st'.ad, y, .int time]
          rw [ead]
        · show st'.cms.length ≤ 1000
          omega
        · show st'.wks.length ≤ 1000
          omega
        · intro p2 zs H6 sa6 c6 hp2 np2 hz hzl
          have hx6 := c6.k p _ n' hx5
          refine ⟨p, p2, xs, zs, rfl, rfl, hx6, hz, ?_, ?_⟩
          · have : List.length xs + List.length zs ≤ 100000 := by omega
            exact sz_of this
          · have ca := (c4.trans c5).trans c6
            refine ⟨r.length, by omega, rfl, commitF { st' with wts := r } wt time, xs ++ zs, ?_, ca.updNew hp, ?_, ?_, ead, rfl, n', upd_same, ?_⟩
            · refine sa6.keep (fun a o ho q => ?_) (tupF hx6 rfl)
              rw [upd_ne fun z => n' (by rw [← z]; exact ho)]
              exact q
            · rw [← settle_go ew hh]
              exact es
            · constructor
              · show (st'.cms ++ [(time, wt.gr)]).length + r.length ≤ 200
                rw [List.length_append]
                show st'.cms.length + 1 + r.length ≤ 200
                omega
              · show (st'.wks ++ [keyW wt]).length ≤ (st'.cms ++ [(time, wt.gr)]).length
                rw [List.length_append, List.length_append]
                exact Nat.succ_le_succ okw'
              · exact ok'.l
            · rw [List.length_append]
              omega
    · intro hb H3 e3
      have ew : st'.wts = [] := by
        cases ew : st'.wts with
        | nil => rfl
        | cons wt r =>
          rw [ew] at hb okn'
          have z : decide ((st'.cms.length : Int) < 200) = false := hb
          have z2 := of_decide_eq_false z
          rw [List.length_cons] at okn'
          omega
      exact fin st' xs H3 (sa'.mono e3 Sro.F0) (c'.trans (Chg.same e3.of0)) es (settle_nil ew) n' (e3.of0 _ _ hx) (by omega)
end
end Le

namespace Le
open PySem PySem.Spec PyProof.Rows L2
local macro_rules | `(tactic| wtm_at "ev1") => `(tactic| first
  | with_reducible exact ev_int | with_reducible exact ev_str | with_reducible exact ev_bl | with_reducible exact ev_non
  | with_reducible apply ev_var | with_reducible apply ev_op | with_reducible apply ev_chain
  | with_reducible apply ev_and | with_reducible apply ev_or | with_reducible apply ev_not
  | with_reducible apply et_and | with_reducible apply et_or | with_reducible apply et_not | with_reducible apply et_test | with_reducible apply et_B | with_reducible apply et_tru
  | with_reducible apply ev_if
  | with_reducible apply ev_tup | with_reducible apply ev_lst | with_reducible apply ea_cons | with_reducible exact ea_nil | with_reducible apply ev_cb
  | with_reducible exact rv_add | with_reducible exact rv_sub | with_reducible exact rv_lt | with_reducible exact rv_le | with_reducible exact rv_gt | with_reducible exact rv_ge
  | with_reducible exact rv_S | with_reducible exact rv_eqS | with_reducible exact rv_neS | with_reducible exact rv_eqI | with_reducible exact rv_neI | with_reducible exact rv_isN | with_reducible exact rv_notN | with_reducible exact rv_isB
  | with_reducible apply rv_ixT | with_reducible apply rv_ixL
  | with_reducible exact rc_lenL | with_reducible exact rc_lenT | with_reducible exact rc_list | with_reducible exact rc_tuple | with_reducible exact rc_intI | with_reducible exact rc_intB | with_reducible exact rc_min | with_reducible exact rc_max
  | wtm_at "evc"
  | (with_reducible apply dv_id; assumption) | (with_reducible apply dv_mono; assumption) | with_reducible apply dv_pin
  | (with_reducible intro _) | (with_reducible apply at_id; assumption) | exact rfl | (with_reducible apply le_id; exact Nat.le_of_ble_eq_true rfl))
local macro_rules | `(tactic| wtm_at "ev") => `(tactic| repeat' (wtm_at "ev1"))
local macro_rules | `(tactic| wtm_at "jj") => `(tactic| first | assumption | exact Ext.j (by assumption))
local macro_rules | `(tactic| wtm_at "evc") => `(tactic| first | with_reducible apply ev_contains | with_reducible apply ev_includes | with_reducible apply ev_touches | with_reducible apply ev_cover_of | with_reducible apply ev_w_cover_of | with_reducible apply ev_w_within | with_reducible apply ev_w_touches | with_reducible apply ev_least_record | with_reducible apply ev_selected | with_reducible apply ev_w_rows | with_reducible apply ev_ask | with_reducible apply ev_w_ask | with_reducible apply ev_apply | with_reducible apply ev_at | with_reducible apply ev_w_at | with_reducible apply ev_results | with_reducible apply ev_w_results | with_reducible apply ev_is_answer_at | with_reducible apply ev_is_true_at | with_reducible apply ev_is_true | with_reducible apply ev_w_is_true | with_reducible apply ev_supports_newest | with_reducible apply ev_supports | with_reducible apply ev_w_supports | with_reducible apply ev_accepts | with_reducible apply ev_w_accepts | with_reducible apply ev_w_is_right | with_reducible apply ev_w_reach | with_reducible apply ev_w_mix | with_reducible apply ev_w_number | with_reducible apply ev_w_is_integer | with_reducible apply ev_w_tells)
theorem valT_none {kvs : List (List L2.Key × V)} {k : List L2.Key} (h : ∀ p, p ∈ kvs → p.1 ≠ k) : valV kvs k = none := by
  unfold valV
  have z : kvs.find? (fun kv => decide (kv.1 = k)) = none := List.find?_eq_none.mpr fun p hp => by
    rw [decide_eq_false (h p hp)]
    decide
  rw [z]
  rfl
theorem kkW_num {a b : Int × Int × Int} (h : kkW a = kkW b) : a.2.2 = b.2.2 := by
  unfold kkW at h
  injection h with _ h
  injection h with _ h
  injection h with h _
  injection h
theorem ev_dinF {K : PySem.W.Frag} {σ : L2.St} {H : Hp} {te : TE} {a p C dx : Addr} {fs : List (Str × V)} {kvs : List (List L2.Key × V)} {k : Int × Int × Int} {i : Nat} {f : Str} (h : σ[i]? = some (some (.ref a))) (hi : H a = some (.ins C dx fs)) (hc : Cls K C) (hn : NoAttr K C f)
    (hl : fs.lookup f = some (.ref p)) (hp : H p = some (.dT kvs)) (hk : Ev F0 te σ H (.tup [.int k.1, .int k.2.1, .int k.2.2])) : Ev F0 (tDIn te (tFld K (tVar i) f)) σ H (.bl (valV kvs (kkW k)).isSome) := fun H1 e1 Q q =>
  hk H1 e1 _ fun y H2 e2 hy => by
    obtain ⟨b, ys, rfl, hb, hd⟩ := hy.tup_inv
    obtain ⟨y1, y2, y3, rfl, h1, h2, h3⟩ := hd.three
    cases h1.int_inv
    cases h2.int_inv
    cases h3.int_inv
    have s2 := L2.Same.trans e1.of0 e2.of0
    exact t_fld h (s2 _ _ hi) hc hn hl ⟨p, _, rfl, DGet.t (k := kkW k) (s2 _ _ hp) hb, q _ H2 e2 (.bl _)⟩
theorem any_py {d : D} : ∀ (n : Nat) (ds : List D), d.fit false n = true → fitA false n ds = true → ((pyA ds).any fun z => PyData.eqv z d.py) = ds.any fun z => z.eqb d
  | _, [], _, _ => rfl
  | n, x :: ds, hd, h => by
    rw [fitA, Bool.and_eq_true] at h
    rw [pyA, List.any_cons, List.any_cons, eqv_py n x d h.1 hd, any_py n ds hd h.2]
theorem rv_inD {F : Fr} {K : PySem.W.Frag} {H : Hp} {d : D} {ds : List D} (n : Nat) (hd : d.fit false n = true) (he : fitA false n ds = true) (hn : n + 1 ≤ 64) : RV F (rInD K) d (.lst ds) H (.bl (ds.any fun z => z.eqb d)) := fun x y H1 e1 hx hy Q q => by
  have fl : (D.lst ds).fit false (n + 1) = true := by
    rw [D.fit]
    exact he
  have z := dp_of (K := K) (n + 1) (.lst ds) y fl hy
  have sh := shaped_of fl hn
  rw [D.py] at z sh
  refine ⟨d.py, pyA ds, dp_of n d x hd hx, z, shaped_of hd (by omega), sh, ?_⟩
  rw [any_py n ds hd he]
  exact q _ H1 (Ext.refl e1.j) (.bl _)
/-- x[:3] of four -/
theorem ev_sl3 {F : Fr} {K : PySem.W.Frag} {σ : L2.St} {H : Hp} {te : TE} {d1 d2 d3 d4 : D} (h : Ev F te σ H (.tup [d1, d2, d3, d4])) : Ev F (tSl (rSlT K) te tNoPart (tPart (tC (.int 3)))) σ H (.tup [d1, d2, d3]) := fun H1 e1 Q q =>
  h H1 e1 _ fun x H2 e2 hx => by
    obtain ⟨a, ys, rfl, ha, hd⟩ := hx.tup_inv
    obtain ⟨y1, y2, y3, y4, rfl, h1, h2, h3, h4⟩ := hd.four
    refine ⟨3, rfl, a, _, rfl, SqT.of ha, ?_, fun p hp => ?_⟩
    · show ¬ (HT.sIx 4 0 none = 0 ∧ HT.sIx 4 4 (some 3) = 4)
      decide
    · have r := (Ext.refl e2.j).new (o := .tup (cutV [y1, y2, y3, y4] none (some 3))) hp
      refine q _ _ (e2.trans r) (.tup upd_same ?_)
      have ec : cutV [y1, y2, y3, y4] none (some 3) = [y1, y2, y3] := rfl
      rw [ec] at r ⊢
      exact .cons (h1.mono r) (.cons (h2.mono r) (.cons (h3.mono r) .nil))
section
variable {P : Program} {w : World} {K : PySem.W.Frag} {mg : Str → Option Value} {base : Heap}
theorem sc_S_handle_write : FnScope ["self", "letter", "time", "_", "host", "incarnation", "number", "group", "request", "moment", "commit_time", "waiting"] ["self", "letter", "time"] d_S_handle_write.scope := ⟨rfl, rfl, rfl, by decide +kernel, rfl, by decide +kernel, by decide +kernel⟩
theorem g_S_handle_write (T : Tx K mg) (G_S_recalls : GoodM P w K mg base 3 (aStore K) "recalls" ["self", "groups", "time"] (sp_S_recalls K)) (G_S_settle : GoodM P w K mg base 4 (aStore K) "settle" ["self", "time"] (sp_S_settle K)) : GoodM P w K mg base 5 (aStore K) "handle_write" ["self", "letter", "time"] (sp_S_handle_write K) := by
  refine good_meth (C := "Store") (He.cls_ok (F_c_Store T.c)) (D_S_handle_write T.c) (He.meth_ok (F_m_S_handle_write T.c)) (fun _ _ _ _ _ _ us hl => match us, hl with | [_, _, _], _ => rfl) sc_S_handle_write (fun vs H Q E ⟨_, _, _, _, h, _⟩ => by rw [h]; rfl) ⟨_, fun f cdv A outer s H E hr =>
    (pss_cons (ps_asg (pv 1) (k_pg_tup (K := K) (n := 5) rfl rfl (pgs_cons (pg_name (i := 3) sc_S_handle_write.nd rfl (Or.inl rfl)) (pgs_cons (pg_name (i := 4) sc_S_handle_write.nd rfl (Or.inl rfl)) (pgs_cons (pg_name (i := 5) sc_S_handle_write.nd rfl (Or.inl rfl)) (pgs_cons (pg_name (i := 6) sc_S_handle_write.nd rfl (Or.inl rfl)) (pgs_cons (pg_name (i := 7) sc_S_handle_write.nd rfl (Or.inl rfl)) pgs_nil)))))))
      (pss_cons (ps_set (i := 8) sc_S_handle_write.nd rfl (Or.inl rfl) (pe_tup (pa_cons (pv 4) (pa_cons (pv 5) (pa_cons (pv 6) pa_nil)))))
      (pss_cons (ps_if (pt_cmp (pc_din (hu_of hr) (pv 8) (k_fld (K := K) rfl (pv 0) rfl))) (pss_cons (ps_asg (pe_dget (hu_of hr) (k_fld (K := K) rfl (pv 0) rfl) (pv 8) (fun _ _ => rfl)) (k_pg_tup (K := K) (n := 2) rfl rfl (pgs_cons (pg_name (i := 9) sc_S_handle_write.nd rfl (Or.inl rfl)) (pgs_cons (pg_name (i := 10) sc_S_handle_write.nd rfl (Or.inl rfl)) pgs_nil))))
      (pss_one (ps_ret (pe_lst (pa_cons (pe_tup (pa_cons pe_str (pa_cons (pv 4) (pa_cons (pv 5) (pa_cons (pv 6) (pa_cons (pv 9) (pa_cons (pv 10) pa_nil))))))) pa_nil))))) pss_nil)
      (pss_cons (ps_if (pt_cmpR (k_inD (K := K) rfl (hu65 hr)) (pv 8) (pe_lc (own := [("waiting", 11)]) (g := gName 11) (tt := tYes) rfl sc_S_handle_write.nd (k_pi_list (K := K) rfl (k_fld (K := K) rfl (pv 0) rfl)) (blkOk_by (own := [("waiting", 11)]) (N := ["self", "letter", "time", "_", "host", "incarnation", "number", "group", "request", "moment", "commit_time", "waiting"]) (sc := d_S_handle_write.scope) (by decide +kernel)) (fun _ _ _ _ _ => pg_name (i := 11) sc_S_handle_write.nd rfl (Or.inl rfl)) (fun _ _ _ _ _ => pts_nil) (fun _ _ _ _ _ => (pe_slice (k_sl_tup (K := K) rfl) (pv 11) po_none (po_some pe_int)))) (by rfl)) (pss_one (ps_ret (pe_lst pa_nil))) pss_nil)
      (pss_cons (ps_expr (k_bm (K := K) rfl PySem.F.plainAttrs_list PySem.F.slot_list_append PySem.F.type_list_append mt_append (k_fld (K := K) rfl (pv 0) rfl) (pa_cons (pe_tup (pa_cons (pv 4) (pa_cons (pv 5) (pa_cons (pv 6) (pa_cons (pv 7) pa_nil))))) pa_nil)))
      (pss_one (ps_ret (pe_op op_cat (pe_mG G_S_recalls (hr.mono (by decide)) (pv 0) (pa_cons (pe_lst (pa_cons (pv 7) pa_nil)) (pa_cons (pv 2) pa_nil))) (pe_mG G_S_settle hr (pv 0) (pa_cons (pv 2) pa_nil)))))))))), ?_⟩
  rintro vs H Q E ⟨st, v, wt, time, rfl, hv, sa, ok, okn, fk, fw, _, kk⟩
  have adv : ∀ {G}, Dv F0 G (.ref st.ad) (.adr st.ad) := .adr _
  apply s_asgS (F := F0) (d := .tup [.str "write", .int wt.host, .int wt.inc, .int wt.num, kG wt.gr]) trivial (ev_var rfl hv)
  intro v2 H1 e1 hv1
  refine g_unp5 hv1 fun w1 w2 w3 w4 w5 hw1 hw2 hw3 hw4 hw5 => ?_
  cases hw2.int_inv
  cases hw3.int_inv
  cases hw4.int_inv
  have sa1 : StoreAt K H1 st := sa.mono e1 Sro.F0
  apply s_setS (F := F0) (d := .tup [.int wt.host, .int wt.inc, .int wt.num]) trivial
  · exact ev_tup (ea_cons (ev_var rfl (.int _)) (ea_cons (ev_var rfl (.int _)) (ea_cons (ev_var rfl (.int _)) ea_nil))) (Nat.le_of_ble_eq_true rfl)
  intro v8 H2 e2 h8
  have sa2 := sa1.mono e2 Sro.F0
  obtain ⟨kvs, hkv, hkl, hkk⟩ := sa2.wr
  apply s_ifFS (F := F0) (b := (valV kvs (kkW (keyW wt))).isSome) trivial
  · apply et_B
    exact ev_dinF (k := keyW wt) rfl sa2.ins (cS T) (He.noat_ok (F_n_S_written T.c)) rfl hkv (ev_var rfl h8)
  · rw [valT_none fun p hp e => ?_]
    · rfl
    · obtain ⟨k, hk, e2⟩ := hkk p hp
      have z := kkW_num (e2.symm.trans e)
      have y := fk k hk
      have x : (keyW wt).2.2 = wt.num := rfl
      omega
  intro H3 e3
  have sa3 := sa2.mono e3 Sro.F0
  have h83 := h8.mono e3
  have okn' := ok.n
  apply s_ifFS (F := F0) (b := (st.wts.map fun y => D.tup [.int y.host, .int y.inc, .int y.num]).any fun z => z.eqb (.tup [.int wt.host, .int wt.inc, .int wt.num])) trivial
  · apply et_test
    refine ev_op (ev_var rfl h83) ?_ (rv_inD 1 rfl ?_ (by decide))
    · refine (ev_lcM (ws := st.wts) (enc := kWt) (ev_wts T sa3 Sro.F0 (ev_var rfl adv)) (fun y => D.tup [.int y.host, .int y.inc, .int y.num]) (fun _ _ => rfl) (by omega) ?_).toEv
      intro i y x H' hi e' hx
      exact ⟨_, fun Q q => q, rfl, ev_sl3 (ev_var rfl hx)⟩
    · refine fitA_all.mpr fun d hd => ?_
      obtain ⟨y, _, rfl⟩ := List.mem_map.mp hd
      rfl
  · refine List.any_eq_false.mpr fun d hd z => ?_
    obtain ⟨y, hy, rfl⟩ := List.mem_map.mp hd
    have q := fw y hy
    simp [D.eqb, eqbA] at z
    omega
  intro H4 e4
  have sa4 := sa3.mono e4 Sro.F0
  obtain ⟨xs, hx, hd⟩ := sa4.wt
  have hw54 : Dv F0 H4 w5 (kG wt.gr) := ((hw5.mono e2).mono e3).mono e4
  apply s_appFS ?_ sa4.ins (cS T) (He.noat_ok (F_n_S_waiting T.c)) rfl hx (d := kWt wt) ?_ ?_ ?_
  · rfl
  · exact ev_tup (ea_cons (ev_var rfl (.int _)) (ea_cons (ev_var rfl (.int _)) (ea_cons (ev_var rfl (.int _)) (ea_cons (ev_var rfl hw54) ea_nil)))) (Nat.le_of_ble_eq_true rfl)
  · rw [hd.len, List.length_map]
    omega
  intro v5 H5 s45 hv5
  have sa5 := sa4.mono (Ext.to0 s45) Sro.F0
  have hx5 := s45 _ _ hx
  have sa6 : StoreAt K (upd H5 st.wt (.lst (xs ++ [v5]))) (writeF st wt) := sa5.setWt (ws := st.wts ++ [wt]) hx5 (by
    rw [List.map_append]
    exact (imA imm_kWt hd fun a ys q => s45 _ _ q).snoc hv5)
  have c6 : Chg st (writeF st wt) H5 (upd H5 st.wt (.lst (xs ++ [v5]))) := ⟨fun a o n q => by
    rw [upd_ne fun z => n (by rw [z]; exact Or.inr (Or.inr (Or.inr (Or.inl rfl))))]
    exact q, tupF hx5 rfl, fun a z => Or.inl z, fun a z => z⟩
  have c06 := (Chg.same (st := st) (L2.Same.trans e1.of0 (L2.Same.trans e2.of0 (L2.Same.trans e3.of0 (L2.Same.trans e4.of0 s45))))).trans c6
  have hw56 := (hw54.mono (Ext.to0 s45)).cast (F' := F0) c6.t (imm_kG wt.gr)
  have ad6 : (writeF st wt).ad = st.ad := rfl
  have ls6 : (writeF st wt).lss = st.lss := rfl
  have ok6 : StOk (writeF st wt) := ⟨by
    show st.cms.length + (st.wts ++ [wt]).length ≤ 200
    rw [List.length_append]
    show st.cms.length + (st.wts.length + 1) ≤ 200
    omega, ok.w, ok.l⟩
  have okl := ok.l
  generalize upd H5 st.wt (.lst (xs ++ [v5])) = H6 at *
  generalize writeF st wt = st6 at *
  have ins6 := sa6.ins
  rw [ad6] at ins6
  refine ⟨_, rfl, st.ad, _, _, rfl, ins6, rfl, ?_⟩
  refine EvA.use (F := F0) (ds := [.lst ([wt.gr].map kG), .int time]) (ea_cons (ev_lst (ea_cons (ev_var rfl hw56) ea_nil) (Nat.le_of_ble_eq_true rfl)) (ea_cons (ev_var rfl (.int _)) ea_nil)) trivial fun vs7 H7 e7 hvs7 => ?_
  obtain ⟨a1, a2, rfl, ha1, ha2⟩ := hvs7.two
  cases ha2.int_inv
  have sa7 := sa6.mono e7 Sro.F0
  refine ⟨st6, [wt.gr], time, a1, by rw [ad6]; rfl, ha1, sa7, by rw [ls6]; omega, Nat.le_of_ble_eq_true rfl, fun p1 ys1 H8 s78 hp1 hy1 hl1 => ?_⟩
  have sa8 := sa7.mono (Ext.to0 s78) Sro.F0
  have ins8 := sa8.ins
  rw [ad6] at ins8
  have np1 : ¬ own st6 p1 := fun z => by
    obtain ⟨o, h1, _⟩ := sa7.live z
    rw [hp1] at h1
    cases h1
  refine ⟨_, rfl, st.ad, _, _, rfl, ins8, rfl, _, rfl, ?_⟩
  refine ⟨st6, time, by rw [ad6]; rfl, sa8, ok6, fun p2 ys2 H9 sa9 c9 hp2 np2 hy2 hl2 => ?_⟩
  have hy19 := c9.k p1 _ np1 hy1
  rw [ls6] at hl1
  refine ⟨p1, p2, ys1, ys2, rfl, rfl, hy19, hy2, ?_, fun p3 hp3 => ?_⟩
  · have : ys1.length + ys2.length ≤ 100000 := by omega
    exact sz_of this
  · have s9 := same_new (o := .lst (ys1 ++ ys2)) hp3
    exact kk _ _ (sa9.mono (Ext.to0 s9) Sro.F0) (((c06.trans (Chg.same (L2.Same.trans e7.of0 s78))).trans c9).trans (Chg.same s9))
end
end Le

namespace Le
open PySem PySem.Spec PyProof.Rows L2
local macro_rules | `(tactic| wtm_at "ev1") => `(tactic| first
  | with_reducible exact ev_int | with_reducible exact ev_str | with_reducible exact ev_bl | with_reducible exact ev_non
  | with_reducible apply ev_var | with_reducible apply ev_op | with_reducible apply ev_chain
  | with_reducible apply ev_and | with_reducible apply ev_or | with_reducible apply ev_not
  | with_reducible apply et_and | with_reducible apply et_or | with_reducible apply et_not | with_reducible apply et_test | with_reducible apply et_B | with_reducible apply et_tru
  | with_reducible apply ev_if
  | with_reducible apply ev_tup | with_reducible apply ev_lst | with_reducible apply ea_cons | with_reducible exact ea_nil | with_reducible apply ev_cb
  | with_reducible exact rv_add | with_reducible exact rv_sub | with_reducible exact rv_lt | with_reducible exact rv_le | with_reducible exact rv_gt | with_reducible exact rv_ge
  | with_reducible exact rv_S | with_reducible exact rv_eqS | with_reducible exact rv_neS | with_reducible exact rv_eqI | with_reducible exact rv_neI | with_reducible exact rv_isN | with_reducible exact rv_notN | with_reducible exact rv_isB
  | with_reducible apply rv_ixT | with_reducible apply rv_ixL
  | with_reducible exact rc_lenL | with_reducible exact rc_lenT | with_reducible exact rc_list | with_reducible exact rc_tuple | with_reducible exact rc_intI | with_reducible exact rc_intB | with_reducible exact rc_min | with_reducible exact rc_max
  | wtm_at "evc"
  | (with_reducible apply dv_id; assumption) | (with_reducible apply dv_mono; assumption) | with_reducible apply dv_pin
  | (with_reducible intro _) | (with_reducible apply at_id; assumption) | exact rfl | (with_reducible apply le_id; exact Nat.le_of_ble_eq_true rfl))
local macro_rules | `(tactic| wtm_at "ev") => `(tactic| repeat' (wtm_at "ev1"))
local macro_rules | `(tactic| wtm_at "jj") => `(tactic| first | assumption | exact Ext.j (by assumption))
local macro_rules | `(tactic| wtm_at "evc") => `(tactic| first | with_reducible apply ev_contains | with_reducible apply ev_includes | with_reducible apply ev_touches | with_reducible apply ev_cover_of | with_reducible apply ev_w_cover_of | with_reducible apply ev_w_within | with_reducible apply ev_w_touches | with_reducible apply ev_least_record | with_reducible apply ev_selected | with_reducible apply ev_w_rows | with_reducible apply ev_ask | with_reducible apply ev_w_ask | with_reducible apply ev_apply | with_reducible apply ev_at | with_reducible apply ev_w_at | with_reducible apply ev_results | with_reducible apply ev_w_results | with_reducible apply ev_is_answer_at | with_reducible apply ev_is_true_at | with_reducible apply ev_is_true | with_reducible apply ev_w_is_true | with_reducible apply ev_supports_newest | with_reducible apply ev_supports | with_reducible apply ev_w_supports | with_reducible apply ev_accepts | with_reducible apply ev_w_accepts | with_reducible apply ev_w_is_right | with_reducible apply ev_w_reach | with_reducible apply ev_w_mix | with_reducible apply ev_w_number | with_reducible apply ev_w_is_integer | with_reducible apply ev_w_tells)
theorem s_fldBS {K : PySem.W.Frag} {σ : L2.St} {H : Hp} {a C dx : Addr} {fs : List (Str × V)} {b : Bool} {i : Nat} {f : Str} {D' : Ends} {u : TS} (h : σ[i]? = some (some (.ref a))) (hi : H a = some (.ins C dx fs)) (hc : Cls K C) (hn : NoAttr K C f) (hz : fs.length < 1000) (k : u D' σ (upd H a (.ins C dx (putF f (.bl b) fs)))) : tSeq (sFld K (tVar i) (tC (.bl b)) f) u D' σ H := s_fldB h hi hc hn hz k
theorem s_makeS {σ : L2.St} {H : Hp} {c : Addr} {sp : Sp} {t : TA} {ds : List D} {u : TS} {D' : Ends} {i : Nat} (h : EvA F0 t σ H ds) (k : ∀ vs H2, Same H H2 → DvA F0 H2 vs ds → ∀ x dx, H2 x = none → H2 dx = none → dx ≠ x → sp (.ref x :: vs) (upd (upd H2 dx (.own x)) x (.ins c dx [])) (fun v H3 => v = .non ∧ u D' (σ.set i (some (.ref x))) H3) E0) :
    tSeq (tAsg (tMake c sp [] E0 t) (gName i)) u D' σ H := h.use trivial fun vs H2 e2 hv x dx h1 h2 h3 => by
  have z := k vs H2 e2.of0 hv x dx h1 h2 h3
  rw [List.append_nil]
  exact z
section
variable {P : Program} {w : World} {K : PySem.W.Frag} {mg : Str → Option Value} {base : Heap}
theorem sc_S_handle_lease : FnScope ["self", "letter", "time", "_", "host", "incarnation", "number", "cover", "index", "lease", "until"] ["self", "letter", "time"] d_S_handle_lease.scope := ⟨rfl, rfl, rfl, by decide +kernel, rfl, by decide +kernel, by decide +kernel⟩
theorem g_S_handle_lease (T : Tx K mg) (G_S_leased : GoodM P w K mg base 1 (aStore K) "leased" ["self", "index"] (sp_S_leased K)) (G_S_is_awaited : GoodM P w K mg base 3 (aStore K) "is_awaited" ["self", "cover"] (sp_S_is_awaited K)) (G_L_init : GoodI P w K mg base 1 (aLease K) "Lease" ["self", "owner", "request", "cover", "until", "moment", "time"] (sp_L_init K)) (G_S_moment : GoodM P w K mg base 1 (aStore K) "moment" ["self"] (sp_S_moment K)) : GoodM P w K mg base 4 (aStore K) "handle_lease" ["self", "letter", "time"] (sp_S_handle_lease K) := by
  refine good_meth (C := "Store") (He.cls_ok (F_c_Store T.c)) (D_S_handle_lease T.c) (He.meth_ok (F_m_S_handle_lease T.c)) (fun _ _ _ _ _ _ us hl => match us, hl with | [_, _, _], _ => rfl) sc_S_handle_lease (fun vs H Q E ⟨_, _, _, _, _, _, _, h, _⟩ => by rw [h]; rfl) ⟨_, fun f cdv A outer s H E hr =>
    (pss_cons (ps_asg (pv 1) (k_pg_tup (K := K) (n := 5) rfl rfl (pgs_cons (pg_name (i := 3) sc_S_handle_lease.nd rfl (Or.inl rfl)) (pgs_cons (pg_name (i := 4) sc_S_handle_lease.nd rfl (Or.inl rfl)) (pgs_cons (pg_name (i := 5) sc_S_handle_lease.nd rfl (Or.inl rfl)) (pgs_cons (pg_name (i := 6) sc_S_handle_lease.nd rfl (Or.inl rfl)) (pgs_cons (pg_name (i := 7) sc_S_handle_lease.nd rfl (Or.inl rfl)) pgs_nil)))))))
      (pss_cons (ps_for PassesOwn.never rfl (k_pi_enum (K := K) rfl (by rfl) (T.free _ (F_b_enumerate T.c)) (pa_cons (k_fld (K := K) rfl (pv 0) rfl) pa_nil)) (k_pg_tup (K := K) (n := 2) rfl rfl (pgs_cons (pg_name (i := 8) sc_S_handle_lease.nd rfl (Or.inl rfl)) (pgs_cons (pg_name (i := 9) sc_S_handle_lease.nd rfl (Or.inl rfl)) pgs_nil))) (pss_one (ps_if (PW.pt (pw_and (pt_cmpR (k_eqD (K := K) rfl hr.units) (k_fld (K := K) rfl (pv 9) rfl) (pe_tup (pa_cons (pv 4) (pa_cons (pv 5) pa_nil))) (nomark _)) (pw_and1 (pt_cmpR op_eq (k_fld (K := K) rfl (pv 9) rfl) (pv 6) (nomark _))))) (pss_one (ps_ret (pe_lst (pa_cons (pe_mG G_S_leased (hr.mono (by decide)) (pv 0) (pa_cons (pv 8) pa_nil)) pa_nil)))) pss_nil)))
      (pss_cons (ps_if (pt_val (pe_mG G_S_is_awaited hr (pv 0) (pa_cons (pv 7) pa_nil))) (pss_one (ps_ret (pe_lst (pa_cons (pe_tup (pa_cons pe_str (pa_cons (pv 4) (pa_cons (pv 5) (pa_cons (pv 6) pa_nil))))) pa_nil)))) pss_nil)
      (pss_cons (ps_set (i := 10) sc_S_handle_lease.nd rfl (Or.inl rfl) (pe_op op_add (pv 2) (k_fld (K := K) rfl (pv 0) rfl)))
      (pss_cons (ps_set (i := 9) sc_S_handle_lease.nd rfl (Or.inl rfl) (pe_mkG G_L_init (hr.mono (by decide)) rfl (pa_cons (pe_tup (pa_cons (pv 4) (pa_cons (pv 5) pa_nil))) (pa_cons (pv 6) (pa_cons (pv 7) (pa_cons (pv 10) (pa_cons (pe_m0G G_S_moment (hr.mono (by decide)) (pv 0)) (pa_cons (pv 2) pa_nil))))))))
      (pss_cons (ps_expr (k_bm (K := K) rfl PySem.F.plainAttrs_list PySem.F.slot_list_append PySem.F.type_list_append mt_append (k_fld (K := K) rfl (pv 0) rfl) (pa_cons (pv 9) pa_nil)))
      (pss_one (ps_ret (pe_lst (pa_cons (pe_mG G_S_leased (hr.mono (by decide)) (pv 0) (pa_cons (pe_op op_sub (pe_callB (k_len (K := K) rfl) (by rfl) (T.free _ (F_b_len T.c)) (by decide +kernel) (pa_cons (k_fld (K := K) rfl (pv 0) rfl) pa_nil)) pe_int) pa_nil)) pa_nil)))))))))), ?_⟩
  rintro vs H Q E ⟨st, v, h, i, n, c, time, rfl, hv, sa, ok, okn, fl, kk1, kk2⟩
  have adv : ∀ {G}, Dv F0 G (.ref st.ad) (.adr st.ad) := .adr _
  apply s_asgS (F := F0) (d := .tup [.str "lease", .int h, .int i, .int n, kC c]) trivial (ev_var rfl hv)
  intro v2 H1 e1 hv1
  refine g_unp5 hv1 fun w1 w2 w3 w4 w5 hw1 hw2 hw3 hw4 hw5 => ?_
  cases hw2.int_inv
  cases hw3.int_inv
  cases hw4.int_inv
  have sa1 : StoreAt K H1 st := sa.mono e1 Sro.F0
  apply s_forES (F := F0) trivial (ev_grs T sa1 Sro.F0 (ev_var rfl adv)) (Pv := fun _ σ' H' => ∃ a b, σ' = [some (.ref st.ad), some v, some (.int time), some w1, some (.int h), some (.int i), some (.int n), some w5, a, b, none])
  · exact fun H2 e2 => ⟨none, none, rfl⟩
  · rintro m d x σ' H' hi e' ⟨a, b, rfl⟩ H2 e2 hx
    rw [List.getElem?_map] at hi
    obtain ⟨q, hq, rfl⟩ := Option.map_eq_some_iff.mp hi
    have pm := List.mem_of_getElem? hq
    have lq := fl q pm
    have sa2 := (sa1.mono e' Sro.F0).mono e2 Sro.F0
    have lsa := sa2.ls q pm
    apply s_ifN (F := F0) (b := (D.tup [.int q.2.host, .int q.2.inc]).eqb (.tup [.int h, .int i]) && decide (q.2.req = n)) trivial
    · apply et_and
      · apply et_test
        exact ev_op (ev_own T lsa (fun z => z) (ev_var rfl hx)) (ev_tup (ea_cons (ev_var rfl (.int _)) (ea_cons (ev_var rfl (.int _)) ea_nil)) (Nat.le_of_ble_eq_true rfl)) (rv_eqD 1 rfl rfl (by decide))
      · intro _
        apply et_test
        exact ev_op (ev_req T lsa (fun z => z) (ev_var rfl hx)) (ev_var rfl (.int _)) rv_eqI
    · intro hb
      have z := of_decide_eq_true (Bool.and_eq_true_iff.mp hb).2
      omega
    · intro hb H3 e3
      exact ⟨e2.trans e3, _, _, rfl⟩
  · rintro σ' H2 e2 ⟨a, b, rfl⟩
    have sa2 := sa1.mono e2 Sro.F0
    have hw52 : Dv F0 H2 w5 (kC c) := hw5.mono e2
    apply s_ifS (F := F0) (b := awaitF st c) trivial
    · exact et_B (ev_awaited ⟨Sro.F0, sa2⟩ (ev_var rfl adv) (ea_cons (ev_var rfl hw52) ea_nil))
    · intro hb H3 e3
      apply s_ret (F := F0) (d := .lst [.tup [.str "denied", .int h, .int i, .int n]]) trivial
      · exact ev_lst (ea_cons (ev_tup (ea_cons ev_str (ea_cons (ev_var rfl (.int _)) (ea_cons (ev_var rfl (.int _)) (ea_cons (ev_var rfl (.int _)) ea_nil)))) (Nat.le_of_ble_eq_true rfl)) ea_nil) (Nat.le_of_ble_eq_true rfl)
      · intro v4 H4 e4 _
        exact kk1 hb v4 H4 ((sa2.mono e3 Sro.F0).mono e4 Sro.F0) (Chg.same (L2.Same.trans e1.of0 (L2.Same.trans e2.of0 (L2.Same.trans e3.of0 e4.of0))))
    intro hb H3 e3
    have sa3 := sa2.mono e3 Sro.F0
    apply s_setS (F := F0) (d := .int (time + st.len)) trivial
    · exact ev_op (ev_var rfl (.int _)) (ev_len T sa3 Sro.F0 (ev_var rfl adv)) rv_add
    intro v10 H4 e4 h10
    cases h10.int_inv
    have sa4 := sa3.mono e4 Sro.F0
    have hw54 : Dv F0 H4 w5 (kC c) := (hw52.mono e3).mono e4
    apply s_makeS (ds := [.tup [.int h, .int i], .int n, kC c, .int (time + st.len), .int (st.cms.length : Nat), .int time])
    · exact (ea_cons (ev_tup (ea_cons (ev_var rfl (.int _)) (ea_cons (ev_var rfl (.int _)) ea_nil)) (Nat.le_of_ble_eq_true rfl)) (ea_cons (ev_var rfl (.int _)) (ea_cons (ev_var rfl hw54) (ea_cons (ev_var rfl (.int _)) (ea_cons (ev_moment ⟨Sro.F0, sa4⟩ (ev_var rfl adv)) (ea_cons (ev_var rfl (.int _)) ea_nil))))))
    intro vs5 H5 s5 hvs5
    have e5 := Ext.to0 s5
    obtain ⟨a1, a2, a3, a4, a5, a6, rfl, ha1, ha2, ha3, ha4, ha5, ha6⟩ := hvs5.six
    cases ha2.int_inv
    cases ha4.int_inv
    cases ha5.int_inv
    cases ha6.int_inv
    have sa5 := sa4.mono e5 Sro.F0
    intro q dx hq hdx hne
    have s5a : Same H5 (upd H5 dx (.own q)) := same_new hdx
    have hq2 : upd H5 dx (.own q) q = none := by
      rw [upd_ne hne.symm]
      exact hq
    refine ⟨q, dx, a1, a3, ⟨h, i, n, c, time + st.len, (st.cms.length : Nat), time, false⟩, rfl, upd_same, fun H6 hq6 hk6 => ⟨rfl, ?_⟩⟩
    have s56 : Same H5 H6 := fun b o z => by
      have nb : b ≠ q := ne_of_none z hq
      rw [hk6 b nb, upd_ne nb, upd_ne (ne_of_none z hdx)]
      exact z
    have sa6 := sa5.mono (Ext.to0 s56) Sro.F0
    have nq : ¬ own st q := fun z => by
      obtain ⟨o, h1, _⟩ := sa5.live z
      rw [hq] at h1
      cases h1
    have l6 : LsAt K H6 q ⟨h, i, n, c, time + st.len, (st.cms.length : Nat), time, false⟩ := ⟨dx, a1, a3, hq6, ha1.mono (Ext.to0 s56), ha3.mono (Ext.to0 s56)⟩
    apply s_appFS ?_ sa6.ins (cS T) (He.noat_ok (F_n_S_granted T.c)) rfl sa6.gr (d := .adr q) ?_ ?_ ?_
    · rfl
    · exact ev_var rfl (.adr _)
    · rw [List.length_map]
      omega
    intro v7 H7 s67 hv7
    cases hv7.adr_inv
    have sa7 := sa6.mono (Ext.to0 s67) Sro.F0
    have l7 := l6.mono (Ext.to0 s67) (fun z => z)
    have sa8 := sa7.addGr l7 nq
    have c8 : Chg st (grantF st q ⟨h, i, n, c, time + st.len, (st.cms.length : Nat), time, false⟩) H5 (upd H7 st.gr (.lst ((st.lss.map fun p => .ref p.1) ++ [.ref q]))) := by
      refine ⟨fun a o na z => ?_, fun a xs z => ?_, fun a z => ?_, fun a z => ?_⟩
      · rw [upd_ne fun y => na (by rw [y]; exact Or.inr (Or.inr (Or.inl rfl)))]
        exact s67 _ _ (s56 _ _ z)
      · exact tupF sa7.gr rfl a xs (s67 _ _ (s56 _ _ z))
      · rcases z with z | z | z | z | z | ⟨l, z⟩
        · exact Or.inl (Or.inl z)
        · exact Or.inl (Or.inr (Or.inl z))
        · exact Or.inl (Or.inr (Or.inr (Or.inl z)))
        · exact Or.inl (Or.inr (Or.inr (Or.inr (Or.inl z))))
        · exact Or.inl (Or.inr (Or.inr (Or.inr (Or.inr (Or.inl z)))))
        · rcases List.mem_append.mp z with y | y
          · exact Or.inl (Or.inr (Or.inr (Or.inr (Or.inr (Or.inr ⟨l, y⟩)))))
          · have e := List.mem_singleton.mp y
            injection e with e _
            rw [e]
            exact Or.inr hq
      · rcases z with z | z | z | z | z | ⟨l, z⟩
        · exact Or.inl z
        · exact Or.inr (Or.inl z)
        · exact Or.inr (Or.inr (Or.inl z))
        · exact Or.inr (Or.inr (Or.inr (Or.inl z)))
        · exact Or.inr (Or.inr (Or.inr (Or.inr (Or.inl z))))
        · exact Or.inr (Or.inr (Or.inr (Or.inr (Or.inr ⟨l, List.mem_append.mpr (Or.inl z)⟩))))
    have c08 := (Chg.same (st := st) (L2.Same.trans e1.of0 (L2.Same.trans e2.of0 (L2.Same.trans e3.of0 (L2.Same.trans e4.of0 e5.of0))))).trans c8
    generalize upd H7 st.gr (.lst ((st.lss.map fun p => .ref p.1) ++ [.ref q])) = H8 at *
    have kk3 := kk2 hb q
    have ad8 : (grantF st q ⟨h, i, n, c, time + st.len, (st.cms.length : Nat), time, false⟩).ad = st.ad := rfl
    have n8 : (grantF st q ⟨h, i, n, c, time + st.len, (st.cms.length : Nat), time, false⟩).lss.length = st.lss.length + 1 := by
      show (st.lss ++ [_]).length = _
      rw [List.length_append]
      rfl
    generalize grantF st q ⟨h, i, n, c, time + st.len, (st.cms.length : Nat), time, false⟩ = st8 at *
    have adv8 : ∀ {G}, Dv F0 G (.ref st.ad) (.adr st8.ad) := by
      intro G
      rw [ad8]
      exact .adr _
    apply s_retC (F := F0) (C := fun d => True) trivial
    · refine EvC.imp (ec_lst (eac_cons (ec_leased (n := (st8.lss.length : Nat) - 1) ⟨Sro.F0, sa8⟩ (ev_var rfl adv8) (ea_cons (ev_op (d1 := .int (st8.lss.length : Nat)) (ev_cb (ea_cons (ev_grs T sa8 Sro.F0 (ev_var rfl adv8)) ea_nil) ?_) ev_int rv_sub) ea_nil) ?_ ?_) eac_nil) ?_) fun _ _ => trivial
      · rw [← len_map (fun p : Addr × Ls => D.adr p.1) st8.lss]
        exact rc_lenL
      · omega
      · omega
      · rintro ds ⟨d, r, rfl, _, rfl⟩
        exact Nat.le_of_ble_eq_true rfl
    · intro v9 H9 d9 e9 _ _
      exact kk3 v9 H9 (sa8.mono e9 Sro.F0) (c08.trans (Chg.same e9.of0))
theorem sc_S_handle_return : FnScope ["self", "letter", "time", "_", "host", "incarnation", "index", "lease"] ["self", "letter", "time"] d_S_handle_return.scope := ⟨rfl, rfl, rfl, by decide +kernel, rfl, by decide +kernel, by decide +kernel⟩
theorem g_S_handle_return (T : Tx K mg) (G_S_settle : GoodM P w K mg base 4 (aStore K) "settle" ["self", "time"] (sp_S_settle K)) : GoodM P w K mg base 5 (aStore K) "handle_return" ["self", "letter", "time"] (sp_S_handle_return K) := by
  refine good_meth (C := "Store") (He.cls_ok (F_c_Store T.c)) (D_S_handle_return T.c) (He.meth_ok (F_m_S_handle_return T.c)) (fun _ _ _ _ _ _ us hl => match us, hl with | [_, _, _], _ => rfl) sc_S_handle_return (fun vs H Q E ⟨_, _, _, _, _, _, h, _⟩ => by rw [h]; rfl) ⟨_, fun f cdv A outer s H E hr =>
    (pss_cons (ps_asg (pv 1) (k_pg_tup (K := K) (n := 4) rfl rfl (pgs_cons (pg_name (i := 3) sc_S_handle_return.nd rfl (Or.inl rfl)) (pgs_cons (pg_name (i := 4) sc_S_handle_return.nd rfl (Or.inl rfl)) (pgs_cons (pg_name (i := 5) sc_S_handle_return.nd rfl (Or.inl rfl)) (pgs_cons (pg_name (i := 6) sc_S_handle_return.nd rfl (Or.inl rfl)) pgs_nil))))))
      (pss_cons (ps_if (pt_not (pt_chain op_le op_lt pe_int (pv 6) (pe_callB (k_len (K := K) rfl) (by rfl) (T.free _ (F_b_len T.c)) (by decide +kernel) (pa_cons (k_fld (K := K) rfl (pv 0) rfl) pa_nil)))) (pss_one (ps_ret (pe_lst pa_nil))) pss_nil)
      (pss_cons (ps_set (i := 7) sc_S_handle_return.nd rfl (Or.inl rfl) (pe_ix (k_ix_list (K := K) rfl) (k_fld (K := K) rfl (pv 0) rfl) (pv 6) (fun _ _ => rfl)))
      (pss_cons (ps_if (pt_cmpR (k_neD (K := K) rfl hr.units) (k_fld (K := K) rfl (pv 7) rfl) (pe_tup (pa_cons (pv 4) (pa_cons (pv 5) pa_nil))) (nomark _)) (pss_one (ps_ret (pe_lst pa_nil))) pss_nil)
      (pss_cons (k_sfld (K := K) rfl (pv 7) pe_bl rfl)
      (pss_one (ps_ret (pe_mG G_S_settle hr (pv 0) (pa_cons (pv 2) pa_nil))))))))), ?_⟩
  rintro vs H Q E ⟨st, v, h, i, n, time, rfl, hv, sa, ok, kk⟩
  have adv : ∀ {G}, Dv F0 G (.ref st.ad) (.adr st.ad) := .adr _
  apply s_asgS (F := F0) (d := .tup [.str "return", .int h, .int i, .int n]) trivial (ev_var rfl hv)
  intro v2 H1 e1 hv1
  refine g_unp4 hv1 fun w1 w2 w3 w4 hw1 hw2 hw3 hw4 => ?_
  cases hw2.int_inv
  cases hw3.int_inv
  cases hw4.int_inv
  have sa1 : StoreAt K H1 st := sa.mono e1 Sro.F0
  apply s_ifS (F := F0) (b := !(decide (0 ≤ n) && decide (n < (st.lss.length : Nat)))) trivial
  · apply et_not
    apply et_test
    refine ev_chain ev_int (ev_var rfl (.int _)) (ev_cb (d := .int (st.lss.length : Nat)) (ea_cons (ev_grs T sa1 Sro.F0 (ev_var rfl adv)) ea_nil) ?_) rv_le rv_lt
    rw [← len_map (fun p : Addr × Ls => D.adr p.1) st.lss]
    exact rc_lenL
  · intro _ H2 e2
    apply s_ret (F := F0) (d := .lst []) trivial
    · exact ev_lst ea_nil (Nat.le_of_ble_eq_true rfl)
    · intro v3 H3 e3 _
      exact kk st v3 H3 (Or.inl rfl) ((sa1.mono e2 Sro.F0).mono e3 Sro.F0) (Chg.same (L2.Same.trans e1.of0 (L2.Same.trans e2.of0 e3.of0)))
  intro hb H2 e2
  rw [Bool.not_eq_false'] at hb
  have n0 := of_decide_eq_true (Bool.and_eq_true_iff.mp hb).1
  have n1 := of_decide_eq_true (Bool.and_eq_true_iff.mp hb).2
  have sa2 := sa1.mono e2 Sro.F0
  obtain ⟨q, hq⟩ := some_at (l := st.lss) n0 n1
  have pm := List.mem_of_getElem? hq
  apply s_setS (F := F0) (d := .adr q.1) trivial
  · exact ev_op (ev_grs T sa2 Sro.F0 (ev_var rfl adv)) (ev_var rfl (.int _)) (rv_ixL (atI_map (f := fun p : Addr × Ls => D.adr p.1) n0 hq))
  intro v7 H3 e3 h7
  cases h7.adr_inv
  have sa3 := sa2.mono e3 Sro.F0
  apply s_ifS (F := F0) (b := !((D.tup [.int q.2.host, .int q.2.inc]).eqb (.tup [.int h, .int i]))) trivial
  · apply et_test
    exact ev_op (ev_own T (sa3.ls q pm) (fun z => z) (ev_var rfl (.adr _))) (ev_tup (ea_cons (ev_var rfl (.int _)) (ea_cons (ev_var rfl (.int _)) ea_nil)) (Nat.le_of_ble_eq_true rfl)) (rv_neD 1 rfl rfl (by decide))
  · intro _ H4 e4
    apply s_ret (F := F0) (d := .lst []) trivial
    · exact ev_lst ea_nil (Nat.le_of_ble_eq_true rfl)
    · intro v5 H5 e5 _
      exact kk st v5 H5 (Or.inl rfl) ((sa3.mono e4 Sro.F0).mono e5 Sro.F0) (Chg.same (L2.Same.trans e1.of0 (L2.Same.trans e2.of0 (L2.Same.trans e3.of0 (L2.Same.trans e4.of0 e5.of0)))))
  intro _ H4 e4
  have sa4 := sa3.mono e4 Sro.F0
  obtain ⟨dx, vo, vc, hins, hvo, hvc⟩ := sa4.ls q pm
  have sa5 := sa4.back (n := n.toNat) hq hins hvo hvc
  apply s_fldBS ?_ hins (cL T) (He.noat_ok (F_n_L_is_returned T.c)) (Nat.le_of_ble_eq_true rfl) ?_
  · rfl
  have ef : putF "is_returned" (.bl true) (lsFs q.2 vo vc q.2.ret) = lsFs q.2 vo vc true := rfl
  rw [ef]
  have c5 : Chg st (retL st n.toNat) H4 (upd H4 q.1 (.ins (aLease K) dx (lsFs q.2 vo vc true))) := by
    have ow : ∀ a, own (retL st n.toNat) a ↔ own st a := fun a => by
      have z : (∃ l, (a, l) ∈ (retL st n.toNat).lss) ↔ ∃ l, (a, l) ∈ st.lss := by
        constructor
        · rintro ⟨l, hl⟩
          obtain ⟨j, hj⟩ := List.mem_iff_getElem?.mp hl
          have hj2 : (st.lss.modify n.toNat fun p => (p.1, { p.2 with ret := true }))[j]? = some (a, l) := hj
          rw [modG] at hj2
          split at hj2
          · obtain ⟨p, hp, e⟩ := Option.map_eq_some_iff.mp hj2
            injection e with e _
            rw [← e]
            exact ⟨p.2, List.mem_of_getElem? hp⟩
          · exact ⟨l, List.mem_of_getElem? hj2⟩
        · rintro ⟨l, hl⟩
          obtain ⟨j, hj⟩ := List.mem_iff_getElem?.mp hl
          have hj2 : ∃ l', (st.lss.modify n.toNat fun p => (p.1, { p.2 with ret := true }))[j]? = some (a, l') := by
            rw [modG]
            split
            · exact ⟨_, by rw [hj]; rfl⟩
            · exact ⟨l, hj⟩
          obtain ⟨l', h'⟩ := hj2
          exact ⟨l', List.mem_of_getElem? h'⟩
      unfold own
      rw [z]
      exact Iff.rfl
    exact Chg.upO (Or.inr (Or.inr (Or.inr (Or.inr (Or.inr ⟨q.2, pm⟩))))) hins rfl ow
  have c05 := (Chg.same (st := st) (L2.Same.trans e1.of0 (L2.Same.trans e2.of0 (L2.Same.trans e3.of0 e4.of0)))).trans c5
  have ok5 : StOk (retL st n.toNat) := ⟨ok.n, ok.w, by
    show (st.lss.modify n.toNat _).length ≤ 200
    rw [List.length_modify]
    exact ok.l⟩
  have kk5 := fun v H' => kk (settleF time (retL st n.toNat)) v H' (Or.inr ⟨_, rfl⟩)
  have ad5 : (retL st n.toNat).ad = st.ad := rfl
  generalize upd H4 q.1 (.ins (aLease K) dx (lsFs q.2 vo vc true)) = H5 at *
  generalize retL st n.toNat = st5 at *
  have ins5 := sa5.ins
  rw [ad5] at ins5
  refine ⟨_, rfl, st.ad, _, _, rfl, ins5, rfl, _, rfl, ?_⟩
  refine ⟨st5, time, by rw [ad5]; rfl, sa5, ok5, fun p xs H6 sa6 c6 _ _ _ _ => ?_⟩
  exact kk5 _ H6 sa6 (c05.trans c6)
theorem sc_S_handle : FnScope ["self", "letter", "time"] ["self", "letter", "time"] d_S_handle.scope := ⟨rfl, rfl, rfl, by decide +kernel, rfl, by decide +kernel, by decide +kernel⟩
theorem g_S_handle (T : Tx K mg) (G_S_handle_write : GoodM P w K mg base 5 (aStore K) "handle_write" ["self", "letter", "time"] (sp_S_handle_write K)) (G_S_handle_lease : GoodM P w K mg base 4 (aStore K) "handle_lease" ["self", "letter", "time"] (sp_S_handle_lease K)) (G_S_handle_return : GoodM P w K mg base 5 (aStore K) "handle_return" ["self", "letter", "time"] (sp_S_handle_return K)) : GoodM P w K mg base 6 (aStore K) "handle" ["self", "letter", "time"] (sp_S_handle K) := by
  refine good_meth (C := "Store") (He.cls_ok (F_c_Store T.c)) (D_S_handle T.c) (He.meth_ok (F_m_S_handle T.c)) (fun _ _ _ _ _ _ us hl => match us, hl with | [_, _, _], _ => rfl) sc_S_handle (fun vs H Q E ⟨_, _, _, h, _⟩ => by rw [h]; rfl) ⟨_, fun f cdv A outer s H E hr =>
    (pss_cons (ps_if (pt_not (pt_val (k_fld (K := K) rfl (pv 0) rfl))) (pss_one (ps_ret (pe_lst pa_nil))) pss_nil)
      (pss_cons (ps_if (pt_cmpR op_eq (pe_ix (k_ix_tup (K := K) rfl) (pv 1) pe_int (fun _ _ => rfl)) pe_str (nomark _)) pss_never pss_nil)
      (pss_cons (ps_if (pt_cmpR op_eq (pe_ix (k_ix_tup (K := K) rfl) (pv 1) pe_int (fun _ _ => rfl)) pe_str (nomark _)) (pss_one (ps_ret (pe_mG G_S_handle_write hr (pv 0) (pa_cons (pv 1) (pa_cons (pv 2) pa_nil))))) pss_nil)
      (pss_cons (ps_if (pt_cmpR op_eq (pe_ix (k_ix_tup (K := K) rfl) (pv 1) pe_int (fun _ _ => rfl)) pe_str (nomark _)) (pss_one (ps_ret (pe_mG G_S_handle_lease (hr.mono (by decide)) (pv 0) (pa_cons (pv 1) (pa_cons (pv 2) pa_nil))))) pss_nil)
      (pss_cons (ps_if (pt_cmpR op_eq (pe_ix (k_ix_tup (K := K) rfl) (pv 1) pe_int (fun _ _ => rfl)) pe_str (nomark _)) (pss_one (ps_ret (pe_mG G_S_handle_return hr (pv 0) (pa_cons (pv 1) (pa_cons (pv 2) pa_nil))))) pss_nil)
      (pss_one (ps_never))))))), ?_⟩
  rintro vs H Q E ⟨st, v, time, rfl, sa, hh⟩
  have adv : ∀ {G}, Dv F0 G (.ref st.ad) (.adr st.ad) := .adr _
  have tst : ∀ {x y : Str} {G : Hp} {r : List D}, Dv F0 G v (.tup (.str x :: r)) → EvT F0 (tTest (tOp rEq (tOp (rIxT K) (tVar 1) (tC (.int 0))) (tC (.str y)))) [some (.ref st.ad), some v, some (.int time)] G (decide (x = y)) := fun {x y G r} hv => et_test (ev_op (ev_op (ev_var rfl hv) ev_int (rv_ixT at0c)) ev_str rv_eqS)
  apply s_ifFS (F := F0) (b := !true) trivial
  · exact et_not (et_B (ev_run T sa Sro.F0 (ev_var rfl adv)))
  · rfl
  intro H1 e1
  rcases hh with ⟨hh, r, hv⟩ | ⟨hh, r, hv⟩ | ⟨hh, r, hv⟩
  · have hv1 := hv.mono e1
    apply s_ifFS (F := F0) trivial (tst hv1) (decide_eq_false (by decide))
    intro H2 e2
    apply s_ifTS (F := F0) trivial (tst (hv1.mono e2)) (decide_eq_true rfl)
    intro H3 e3
    have s3 := L2.Same.trans e1.of0 (L2.Same.trans e2.of0 e3.of0)
    have ins3 := s3 _ _ sa.ins
    exact ⟨_, rfl, st.ad, _, _, rfl, ins3, rfl, _, rfl, _, rfl, write_same s3 hh⟩
  · have hv1 := hv.mono e1
    apply s_ifFS (F := F0) trivial (tst hv1) (decide_eq_false (by decide))
    intro H2 e2
    apply s_ifFS (F := F0) trivial (tst (hv1.mono e2)) (decide_eq_false (by decide))
    intro H3 e3
    apply s_ifTS (F := F0) trivial (tst ((hv1.mono e2).mono e3)) (decide_eq_true rfl)
    intro H4 e4
    have s4 := L2.Same.trans e1.of0 (L2.Same.trans e2.of0 (L2.Same.trans e3.of0 e4.of0))
    have ins4 := s4 _ _ sa.ins
    exact ⟨_, rfl, st.ad, _, _, rfl, ins4, rfl, _, rfl, _, rfl, lease_same s4 hh⟩
  · have hv1 := hv.mono e1
    apply s_ifFS (F := F0) trivial (tst hv1) (decide_eq_false (by decide))
    intro H2 e2
    apply s_ifFS (F := F0) trivial (tst (hv1.mono e2)) (decide_eq_false (by decide))
    intro H3 e3
    apply s_ifFS (F := F0) trivial (tst ((hv1.mono e2).mono e3)) (decide_eq_false (by decide))
    intro H4 e4
    apply s_ifTS (F := F0) trivial (tst (((hv1.mono e2).mono e3).mono e4)) (decide_eq_true rfl)
    intro H5 e5
    have s5 := L2.Same.trans e1.of0 (L2.Same.trans e2.of0 (L2.Same.trans e3.of0 (L2.Same.trans e4.of0 e5.of0)))
    have ins5 := s5 _ _ sa.ins
    exact ⟨_, rfl, st.ad, _, _, rfl, ins5, rfl, _, rfl, _, rfl, return_same s5 hh⟩
end
end Le

namespace Le
open PySem PySem.Spec PyProof.Rows L2
/-- while the lease stands, no commit from its moment on touches its cover -/
def Safe (cms : List Cm) (now : Int) (l : Ls) : Prop := l.ret = false → now < l.til → ∀ (i : Nat) c, l.mom ≤ (i : Int) → cms[i]? = some c → tch c.2 l.cov = false
structure SInv (st : Sto) (now num : Int) : Prop where
  n : ((st.cms.length : Nat) : Int) + (st.wts.length : Nat) ≤ num
  k : st.wks.length ≤ st.cms.length
  l : ((st.lss.length : Nat) : Int) ≤ num
  t0 : 0 ≤ now
  len : 1 ≤ st.len ∧ st.len ≤ 12
  up : (st.cms.map (·.1)).Pairwise (· ≤ ·)
  tn : ∀ c, c ∈ st.cms → c.1 ≤ now
  gc : LOk st.cms
  gw : ∀ w, w ∈ st.wts → GOk w.gr
  cov : ∀ p, p ∈ st.lss → p.2.cov.1 ∈ keys ∧ p.2.cov.2 ∈ keys
  req : ∀ p, p ∈ st.lss → p.2.req < num
  mom : ∀ p, p ∈ st.lss → 0 ≤ p.2.mom ∧ p.2.mom ≤ (st.cms.length : Nat)
  til : ∀ p, p ∈ st.lss → p.2.til ≤ now + 12
  so : ∀ p, p ∈ st.lss → Safe st.cms now p.2
  wk : ∀ k, k ∈ st.wks → k.2.2 < num
  wn : ∀ w, w ∈ st.wts → w.num < num
theorem SInv.ok {st : Sto} {now num : Int} (h : SInv st now num) (hn : num ≤ 200) : StOk st := ⟨by have := h.n; omega, h.k, by have := h.l; omega⟩
theorem SInv.time {st : Sto} {now now' num : Int} (h : SInv st now num) (hn : now ≤ now') : SInv st now' num :=
  { h with
    t0 := by have := h.t0; omega
    tn := fun c hc => by have := h.tn c hc; omega
    til := fun p hp => by have := h.til p hp; omega
    so := fun p hp hr ht => h.so p hp hr (by omega) }
theorem SInv.more {st : Sto} {now num num' : Int} (h : SInv st now num) (hn : num ≤ num') : SInv st now num' :=
  { h with
    n := by have := h.n; omega
    l := by have := h.l; omega
    req := fun p hp => by have := h.req p hp; omega
    wk := fun k hk => by have := h.wk k hk; omega
    wn := fun w hw => by have := h.wn w hw; omega }
theorem SInv.write {st : Sto} {now num : Int} (h : SInv st now num) {w : Wt} (hw : w.num = num) (hg : GOk w.gr) : SInv (writeF st w) now (num + 1) :=
  { h.more (num' := num + 1) (by omega) with
    n := by
      show ((st.cms.length : Nat) : Int) + ((st.wts ++ [w]).length : Nat) ≤ num + 1
      have := h.n
      rw [List.length_append, List.length_singleton]
      omega
    gw := fun y hy => by
      rcases List.mem_append.mp hy with z | z
      · exact h.gw y z
      · rw [List.mem_singleton.mp z]
        exact hg
    wn := fun y hy => by
      rcases List.mem_append.mp hy with z | z
      · have := h.wn y z
        omega
      · rw [List.mem_singleton.mp z]
        omega }
theorem SInv.grant {st : Sto} {now num : Int} (h : SInv st now num) {q : Addr} {l : Ls} (hr : l.req = num) (hc : l.cov.1 ∈ keys ∧ l.cov.2 ∈ keys) (hm : l.mom = (st.cms.length : Nat)) (ht : l.til = now + st.len) : SInv (grantF st q l) now (num + 1) :=
  { h.more (num' := num + 1) (by omega) with
    l := by
      show (((st.lss ++ [(q, l)]).length : Nat) : Int) ≤ num + 1
      have := h.l
      rw [List.length_append, List.length_singleton]
      omega
    cov := fun p hp => by
      rcases List.mem_append.mp hp with z | z
      · exact h.cov p z
      · rw [List.mem_singleton.mp z]
        exact hc
    req := fun p hp => by
      rcases List.mem_append.mp hp with z | z
      · have := h.req p z
        omega
      · rw [List.mem_singleton.mp z]
        show l.req < num + 1
        omega
    mom := fun p hp => by
      rcases List.mem_append.mp hp with z | z
      · exact h.mom p z
      · rw [List.mem_singleton.mp z]
        show 0 ≤ l.mom ∧ l.mom ≤ (st.cms.length : Nat)
        omega
    til := fun p hp => by
      rcases List.mem_append.mp hp with z | z
      · exact h.til p z
      · rw [List.mem_singleton.mp z]
        show l.til ≤ now + 12
        have := h.len
        omega
    so := fun p hp => by
      rcases List.mem_append.mp hp with z | z
      · exact h.so p z
      · rw [List.mem_singleton.mp z]
        intro _ _ i c hi hc
        have q2 : l.mom ≤ (i : Int) := hi
        have := (List.getElem?_eq_some_iff.mp (show st.cms[i]? = some c from hc)).1
        omega }
theorem modM {α : Type} {l : List α} {n : Nat} {f : α → α} {x : α} (h : x ∈ l.modify n f) : x ∈ l ∨ ∃ y, y ∈ l ∧ x = f y := by
  obtain ⟨i, hi⟩ := List.mem_iff_getElem?.mp h
  rw [List.getElem?_modify] at hi
  cases e : l[i]? with
  | none =>
    rw [e] at hi
    cases hi
  | some y =>
    rw [e] at hi
    have m := List.mem_of_getElem? e
    by_cases q : n = i
    · right
      exact ⟨y, m, by simpa [q] using hi.symm⟩
    · left
      have z : y = x := by simpa [q] using hi
      rw [← z]
      exact m
theorem SInv.ret {st : Sto} {now num : Int} (h : SInv st now num) (n : Nat) : SInv (retL st n) now num := by
  have old : ∀ p, p ∈ (retL st n).lss → p ∈ st.lss ∨ ∃ y, y ∈ st.lss ∧ p = (y.1, { y.2 with ret := true }) := fun p hp => modM hp
  exact { h with
    l := by
      show (((st.lss.modify n _).length : Nat) : Int) ≤ num
      rw [List.length_modify]
      exact h.l
    cov := fun p hp => by
      rcases old p hp with z | ⟨y, hy, rfl⟩
      · exact h.cov p z
      · exact h.cov y hy
    req := fun p hp => by
      rcases old p hp with z | ⟨y, hy, rfl⟩
      · exact h.req p z
      · exact h.req y hy
    mom := fun p hp => by
      rcases old p hp with z | ⟨y, hy, rfl⟩
      · exact h.mom p z
      · exact h.mom y hy
    til := fun p hp => by
      rcases old p hp with z | ⟨y, hy, rfl⟩
      · exact h.til p z
      · exact h.til y hy
    so := fun p hp => by
      rcases old p hp with z | ⟨y, hy, rfl⟩
      · exact h.so p z
      · intro hr
        cases hr }
theorem SInv.commit {st : Sto} {now num : Int} (h : SInv st now num) {w : Wt} {r : List Wt} (e : st.wts = w :: r) (hh : heldF st w.gr now = false) : SInv (commitF { st with wts := r } w now) now num :=
  { h with
    n := by
      show (((st.cms ++ [(now, w.gr)]).length : Nat) : Int) + (r.length : Nat) ≤ num
      have := h.n
      rw [e, List.length_cons] at this
      rw [List.length_append, List.length_singleton]
      omega
    k := by
      show (st.wks ++ [keyW w]).length ≤ (st.cms ++ [(now, w.gr)]).length
      rw [List.length_append, List.length_append]
      exact Nat.succ_le_succ h.k
    up := by
      show ((st.cms ++ [(now, w.gr)]).map (·.1)).Pairwise (· ≤ ·)
      rw [List.map_append]
      refine List.pairwise_append.mpr ⟨h.up, List.pairwise_singleton _ _, fun a ha b hb => ?_⟩
      obtain ⟨c, hc, rfl⟩ := List.mem_map.mp ha
      have eb : b = now := List.mem_singleton.mp hb
      rw [eb]
      exact h.tn c hc
    tn := fun c hc => by
      rcases List.mem_append.mp hc with z | z
      · exact h.tn c z
      · rw [List.mem_singleton.mp z]
        exact Int.le_refl _
    gc := fun c hc => by
      rcases List.mem_append.mp hc with z | z
      · exact h.gc c z
      · rw [List.mem_singleton.mp z]
        exact h.gw w (by rw [e]; exact List.mem_cons.mpr (Or.inl rfl))
    gw := fun y hy => h.gw y (by rw [e]; exact List.mem_cons.mpr (Or.inr hy))
    mom := fun p hp => by
      have := h.mom p hp
      show 0 ≤ p.2.mom ∧ p.2.mom ≤ ((st.cms ++ [(now, w.gr)]).length : Nat)
      rw [List.length_append, List.length_singleton]
      omega
    so := fun p hp hr ht i c hi hc => by
      have hc2 : (st.cms ++ [(now, w.gr)])[i]? = some c := hc
      by_cases q : i < st.cms.length
      · rw [List.getElem?_append_left q] at hc2
        exact h.so p hp hr ht i c hi hc2
      · rw [List.getElem?_append_right (by omega)] at hc2
        have ec : c = (now, w.gr) := by
          have z := List.mem_of_getElem? hc2
          exact List.mem_singleton.mp z
        rw [ec]
        have z := List.any_eq_false.mp hh p hp
        have act : actF p.2 now = true := by
          unfold actF
          rw [hr, decide_eq_true ht]
          rfl
        rw [act] at z
        cases y : tch w.gr p.2.cov with
        | false => rfl
        | true => rw [y] at z; exact absurd rfl z
    wk := fun k hk => by
      rcases List.mem_append.mp hk with z | z
      · exact h.wk k z
      · rw [List.mem_singleton.mp z]
        exact h.wn w (by rw [e]; exact List.mem_cons.mpr (Or.inl rfl))
    wn := fun y hy => h.wn y (by rw [e]; exact List.mem_cons.mpr (Or.inr hy)) }
theorem settleW_inv {now num : Int} : ∀ (ws : List Wt) (st : Sto), st.wts = ws → SInv st now num → SInv (settleW now ws st) now num ∧ (settleW now ws st).lss = st.lss ∧ (settleW now ws st).ad = st.ad ∧ (settleW now ws st).len = st.len
  | [], st, e, h => by
    have z : settleW now [] st = st := by
      show { st with wts := [] } = st
      rw [← e]
    rw [z]
    exact ⟨h, rfl, rfl, rfl⟩
  | w :: r, st, e, h => by
    unfold settleW
    split
    · have z : ({ st with wts := w :: r } : Sto) = st := by rw [← e]
      rw [z]
      exact ⟨h, rfl, rfl, rfl⟩
    · rename_i hh
      have hh2 : heldF st w.gr now = false := by
        cases q : heldF st w.gr now with
        | false => rfl
        | true => exact absurd q hh
      exact settleW_inv r (commitF { st with wts := r } w now) rfl (h.commit e hh2)
theorem SInv.settle {st : Sto} {now num : Int} (h : SInv st now num) : SInv (settleF now st) now num := (settleW_inv st.wts st rfl h).1
theorem settle_ad {st : Sto} {now num : Int} (h : SInv st now num) : (settleF now st).ad = st.ad := (settleW_inv st.wts st rfl h).2.2.1
/-- where no lease stands, all that waits is written -/
theorem settleW_all {now : Int} : ∀ (ws : List Wt) (st : Sto), st.wts = ws → (∀ p, p ∈ st.lss → actF p.2 now = false) → (settleW now ws st).wts = [] ∧ (settleW now ws st).cms.length = st.cms.length + ws.length ∧ (settleW now ws st).lss = st.lss
  | [], st, e, h => ⟨rfl, rfl, rfl⟩
  | w :: r, st, e, h => by
    have hh : heldF st w.gr now = false := List.any_eq_false.mpr fun p hp => by
      rw [h p hp, Bool.false_and]
      exact Bool.false_ne_true
    have z := settleW_all r (commitF { st with wts := r } w now) rfl h
    unfold settleW
    rw [hh, if_neg Bool.false_ne_true]
    refine ⟨z.1, z.2.1.trans ?_, z.2.2⟩
    show (st.cms ++ [(now, w.gr)]).length + r.length = st.cms.length + (r.length + 1)
    rw [List.length_append, List.length_singleton]
    omega
theorem settle_all {st : Sto} {now : Int} (h : ∀ p, p ∈ st.lss → actF p.2 now = false) : (settleF now st).wts = [] ∧ (settleF now st).cms.length = st.cms.length + st.wts.length ∧ (settleF now st).lss = st.lss := settleW_all st.wts st rfl h
theorem tmL_mono {l : List Cm} (h : (l.map (·.1)).Pairwise (· ≤ ·)) {i j : Nat} (hij : i ≤ j) (hj : j < l.length) : tmL l (i : Int) ≤ tmL l (j : Int) := by
  have e1 : tmL l (i : Int) = l[i].1 := by
    unfold tmL
    rw [Int.toNat_natCast, List.getElem?_eq_getElem (by omega)]
    rfl
  have e2 : tmL l (j : Int) = l[j].1 := by
    unfold tmL
    rw [Int.toNat_natCast, List.getElem?_eq_getElem hj]
    rfl
  rw [e1, e2]
  by_cases q : i = j
  · subst q
    exact Int.le_refl _
  · have z := List.pairwise_iff_getElem.mp h i j (by rw [List.length_map]; omega) (by rw [List.length_map]; omega) (by omega)
    rw [List.getElem_map, List.getElem_map] at z
    exact z
theorem reach_ge (l : List Cm) (qs : List Qu) (n : Nat) : n ≤ reachF l qs n := Nat.le_add_right _ _
theorem reach_le {l : List Cm} {qs : List Qu} {n : Nat} (h : n ≤ l.length) : reachF l qs n ≤ l.length := by
  unfold reachF
  have z := (List.takeWhile_sublist (l := l.drop n) (fun c : Cm => !(qs.map Qu.cov).any (tch c.2))).length_le
  rw [List.length_drop] at z
  omega
theorem takeWhile_all {α : Type} {p : α → Bool} : ∀ {l : List α}, (∀ x, x ∈ l → p x = true) → l.takeWhile p = l
  | [], _ => rfl
  | a :: l, h => by
    rw [List.takeWhile_cons, h a (List.mem_cons.mpr (Or.inl rfl)), if_pos rfl, takeWhile_all fun x hx => h x (List.mem_cons.mpr (Or.inr hx))]
theorem sound {st : Sto} {now num : Int} (h : SInv st now num) {fl : Int} (hf : 0 ≤ fl) {rd : Rd} {an : An} (ha : acc st.cms (st.lss.map (·.2)) now fl rd an = true) : right st.cms now fl rd an = true := by
  unfold acc at ha
  obtain ⟨h12, h3⟩ := Bool.and_eq_true_iff.mp ha
  obtain ⟨h1, h2⟩ := Bool.and_eq_true_iff.mp h12
  unfold right
  rw [h1, Bool.true_and]
  have hm := (Bool.and_eq_true_iff.mp (show ((decide (fl ≤ an.mom) && decide (an.mom ≤ (st.cms.length : Nat))) && _) = true from h1)).1
  have m0 : fl ≤ an.mom := of_decide_eq_true (Bool.and_eq_true_iff.mp hm).1
  have m1 : an.mom ≤ (st.cms.length : Nat) := of_decide_eq_true (Bool.and_eq_true_iff.mp hm).2
  have m2 : an.mom.toNat ≤ st.cms.length := by omega
  have em : an.mom = ((an.mom.toNat : Nat) : Int) := by omega
  have rg := reach_ge st.cms rd.qs an.mom.toNat
  have rl := reach_le (qs := rd.qs) m2
  obtain ⟨num2, ses, qs, pr⟩ := rd
  cases pr with
  | any => rfl
  | newest =>
    have h3' : supN (st.lss.map (·.2)) qs an.ev an.mom = true := h3
    unfold supN at h3'
    obtain ⟨hl, hz⟩ := Bool.and_eq_true_iff.mp h3'
    have hl2 : an.ev.length = qs.length := of_decide_eq_true hl
    show decide (reachF st.cms qs an.mom.toNat = st.cms.length) = true
    refine decide_eq_true ?_
    unfold reachF
    have tw : (st.cms.drop an.mom.toNat).takeWhile (fun c => !(qs.map Qu.cov).any (tch c.2)) = st.cms.drop an.mom.toNat := takeWhile_all fun c hc => by
      have nn : (qs.map Qu.cov).any (tch c.2) = false := List.any_eq_false.mpr fun cv hcv => by
        obtain ⟨q, hq, rfl⟩ := List.mem_map.mp hcv
        obtain ⟨j, hj⟩ := List.mem_iff_getElem?.mp hq
        have jl := (List.getElem?_eq_some_iff.mp hj).1
        obtain ⟨s, hs⟩ : ∃ s, an.ev[j]? = some s := ⟨an.ev[j]'(by omega), List.getElem?_eq_getElem (by omega)⟩
        have hzz : (qs.zip an.ev)[j]? = some (q, s) := by
          rw [List.getElem?_zip_eq_some]
          exact ⟨hj, hs⟩
        have one := List.all_eq_true.mp hz (q, s) (List.mem_of_getElem? hzz)
        have tr := List.all_eq_true.mp h2 s (List.mem_of_getElem? hs)
        cases s with
        | «at» a b => cases one
        | lease i =>
          have tr2 : leaseOn (st.lss.map (·.2)) now i = true := tr
          have one2 : (match (st.lss.map (·.2))[i.toNat]? with
            | some x => incl x.cov q.cov && !decide (an.mom < x.mom)
            | none => false) = true := one
          unfold leaseOn at tr2
          have tr3 := (Bool.and_eq_true_iff.mp tr2).2
          rw [List.getElem?_map] at tr3 one2
          cases ep : st.lss[i.toNat]? with
          | none =>
            rw [ep] at tr3
            cases tr3
          | some p =>
            rw [ep] at tr3 one2
            have pm := List.mem_of_getElem? ep
            have tr4 : (!p.2.ret && decide (now < p.2.til)) = true := tr3
            have one3 : (incl p.2.cov q.cov && !decide (an.mom < p.2.mom)) = true := one2
            obtain ⟨t1, t2⟩ := Bool.and_eq_true_iff.mp tr4
            obtain ⟨o1, o2⟩ := Bool.and_eq_true_iff.mp one3
            rw [Bool.not_eq_true'] at t1 o2
            have t3 := of_decide_eq_true t2
            have o3 := of_decide_eq_false o2
            obtain ⟨k, hk⟩ := List.mem_iff_getElem?.mp hc
            rw [List.getElem?_drop] at hk
            have sf := h.so p pm t1 t3 (an.mom.toNat + k) c (by omega) hk
            intro y
            rw [incl_within] at o1
            rw [within_tch o1 y] at sf
            cases sf
      rw [nn]
      rfl
    rw [tw, List.length_drop]
    omega
  | age t =>
    show (decide (reachF st.cms qs an.mom.toNat = st.cms.length) || decide (now - t ≤ tmL st.cms ((reachF st.cms qs an.mom.toNat : Nat) : Int))) = true
    have h3' : (match an.ev with
      | [.at s m] => decide (m ≤ an.mom) && decide (now - t ≤ s)
      | _ => false) = true := h3
    obtain ⟨s, m, ee⟩ : ∃ s m, an.ev = [.at s m] := by
      match ev : an.ev with
      | [] => rw [ev] at h3'; cases h3'
      | [.at s m] => exact ⟨s, m, rfl⟩
      | [.lease i] => rw [ev] at h3'; cases h3'
      | .lease i :: _ :: _ => rw [ev] at h3'; cases h3'
      | .at _ _ :: _ :: _ => rw [ev] at h3'; cases h3'
    rw [ee] at h3' h2
    have tr : trueAt st.cms now s m = true := by
      have z := List.all_eq_true.mp h2 (.at s m) (List.mem_singleton.mpr rfl)
      exact z
    have h4 : (decide (m ≤ an.mom) && decide (now - t ≤ s)) = true := h3'
    have mm : m ≤ an.mom := of_decide_eq_true (Bool.and_eq_true_iff.mp h4).1
    have ts : now - t ≤ s := of_decide_eq_true (Bool.and_eq_true_iff.mp h4).2
    unfold trueAt at tr
    obtain ⟨tr1, tr2⟩ := Bool.and_eq_true_iff.mp tr
    obtain ⟨tr3, _⟩ := Bool.and_eq_true_iff.mp tr1
    obtain ⟨_, tr4⟩ := Bool.and_eq_true_iff.mp tr3
    have m00 : 0 ≤ m := of_decide_eq_true (Bool.and_eq_true_iff.mp tr4).1
    generalize reachF st.cms qs an.mom.toNat = rr at *
    by_cases q : rr = st.cms.length
    · rw [decide_eq_true q]
      rfl
    · rw [decide_eq_false q, Bool.false_or]
      refine decide_eq_true ?_
      have rlt : rr < st.cms.length := by omega
      have nm : ¬ m = (st.cms.length : Nat) := by omega
      rw [decide_eq_false nm, Bool.false_or] at tr2
      have ms := of_decide_eq_true tr2
      have e5 : m = ((m.toNat : Nat) : Int) := by omega
      have z := tmL_mono h.up (i := m.toNat) (j := rr) (by omega) rlt
      rw [← e5] at z
      omega
end Le

namespace Le
open PySem PySem.Spec PyProof.Rows L2
local macro_rules | `(tactic| wtm_at "ev1") => `(tactic| first
  | with_reducible exact ev_int | with_reducible exact ev_str | with_reducible exact ev_bl | with_reducible exact ev_non
  | with_reducible apply ev_var | with_reducible apply ev_op | with_reducible apply ev_chain
  | with_reducible apply ev_and | with_reducible apply ev_or | with_reducible apply ev_not
  | with_reducible apply et_and | with_reducible apply et_or | with_reducible apply et_not | with_reducible apply et_test | with_reducible apply et_B | with_reducible apply et_tru
  | with_reducible apply ev_if
  | with_reducible apply ev_tup | with_reducible apply ev_lst | with_reducible apply ea_cons | with_reducible exact ea_nil | with_reducible apply ev_cb
  | with_reducible exact rv_add | with_reducible exact rv_sub | with_reducible exact rv_lt | with_reducible exact rv_le | with_reducible exact rv_gt | with_reducible exact rv_ge
  | with_reducible exact rv_S | with_reducible exact rv_eqS | with_reducible exact rv_neS | with_reducible exact rv_eqI | with_reducible exact rv_neI | with_reducible exact rv_isN | with_reducible exact rv_notN | with_reducible exact rv_isB
  | with_reducible apply rv_ixT | with_reducible apply rv_ixL
  | with_reducible exact rc_lenL | with_reducible exact rc_lenT | with_reducible exact rc_list | with_reducible exact rc_tuple | with_reducible exact rc_intI | with_reducible exact rc_intB | with_reducible exact rc_min | with_reducible exact rc_max
  | wtm_at "evc"
  | (with_reducible apply dv_id; assumption) | (with_reducible apply dv_mono; assumption) | with_reducible apply dv_pin
  | (with_reducible intro _) | (with_reducible apply at_id; assumption) | exact rfl | (with_reducible apply le_id; exact Nat.le_of_ble_eq_true rfl))
local macro_rules | `(tactic| wtm_at "ev") => `(tactic| repeat' (wtm_at "ev1"))
local macro_rules | `(tactic| wtm_at "jj") => `(tactic| first | assumption | exact Ext.j (by assumption))
local macro_rules | `(tactic| wtm_at "evc") => `(tactic| first | with_reducible apply ev_contains | with_reducible apply ev_includes | with_reducible apply ev_touches | with_reducible apply ev_cover_of | with_reducible apply ev_w_cover_of | with_reducible apply ev_w_within | with_reducible apply ev_w_touches | with_reducible apply ev_least_record | with_reducible apply ev_selected | with_reducible apply ev_w_rows | with_reducible apply ev_ask | with_reducible apply ev_w_ask | with_reducible apply ev_apply | with_reducible apply ev_at | with_reducible apply ev_w_at | with_reducible apply ev_results | with_reducible apply ev_w_results | with_reducible apply ev_is_answer_at | with_reducible apply ev_is_true_at | with_reducible apply ev_is_true | with_reducible apply ev_w_is_true | with_reducible apply ev_supports_newest | with_reducible apply ev_supports | with_reducible apply ev_w_supports | with_reducible apply ev_accepts | with_reducible apply ev_w_accepts | with_reducible apply ev_w_is_right | with_reducible apply ev_w_reach | with_reducible apply ev_w_mix | with_reducible apply ev_w_number | with_reducible apply ev_w_is_integer | with_reducible apply ev_w_tells)
/-- the law's own cells beside the store's -/
def FL (s a nm : Addr) (st : Sto) (num : Int) : Fr where
  S := fun x => x = s
  U := fun x => x = s ∨ x = a ∨ x = nm ∨ own st x
  J := fun H => StAt H s a ∧ H nm = some (.lst [.int num]) ∧ a ≠ nm ∧ s ≠ nm ∧ ¬ own st s ∧ ¬ own st a ∧ ¬ own st nm ∧ ∀ x, own st x → H x ≠ none
  sub := Or.inl
  live := fun {H x} j u => by
    obtain ⟨⟨⟨v, p, q, _, hs⟩, ns, ha, _⟩, hn, _, _, _, _, _, hl⟩ := j
    rcases u with rfl | rfl | rfl | u
    · rw [hs]
      exact fun z => nomatch z
    · rw [ha]
      exact fun z => nomatch z
    · rw [hn]
      exact fun z => nomatch z
    · exact hl x u
  loc := fun {H H'} j k => by
    obtain ⟨⟨⟨v, p, q, hp, hs⟩, ns, ha, hl⟩, hn, d1, d2, o1, o2, o3, hv⟩ := j
    refine ⟨⟨⟨v, p, q, hp, k _ _ (Or.inl rfl) hs⟩, ns, k _ _ (Or.inr (Or.inl rfl)) ha, hl⟩, k _ _ (Or.inr (Or.inr (Or.inl rfl))) hn, d1, d2, o1, o2, o3, fun x hx => ?_⟩
    cases e : H x with
    | none => exact absurd e (hv x hx)
    | some o =>
      rw [k x o (Or.inr (Or.inr (Or.inr hx))) e]
      exact fun z => nomatch z
section
variable {K : PySem.W.Frag} {s a nm : Addr} {st st' : Sto} {num : Int} {H H' : Hp}
theorem drw_FL : Drw (FL s a nm st num) s a := ⟨rfl, fun _ h => h.1, fun H v p q h hp => by
  have n := h.1.ne
  obtain ⟨⟨_, ns, ha, hl⟩, hn, d1, d2, o1, o2, o3, hv⟩ := h
  refine ⟨⟨⟨v, p, q, hp, upd_same⟩, ns, by rw [upd_ne n]; exact ha, hl⟩, by rw [upd_ne d2.symm]; exact hn, d1, d2, o1, o2, o3, fun x hx => ?_⟩
  rw [upd_ne fun z => o1 (by rw [← z]; exact hx)]
  exact hv x hx⟩
theorem sro_FL (j : (FL s a nm st num).J H) : Sro (FL s a nm st num) st := fun x hx e => j.2.2.2.2.1 (by rw [← (show x = s from e)]; exact hx)
theorem FL_num (j : (FL s a nm st num).J H) {k : Int} : (FL s a nm st k).J (upd H nm (.lst [.int k])) := by
  obtain ⟨⟨⟨v, p, q, hp, hs⟩, ns, ha, hl⟩, hn, d1, d2, o1, o2, o3, hv⟩ := j
  refine ⟨⟨⟨v, p, q, hp, by rw [upd_ne d2]; exact hs⟩, ns, by rw [upd_ne d1]; exact ha, hl⟩, upd_same, d1, d2, o1, o2, o3, fun x hx => ?_⟩
  rw [upd_ne fun z => o3 (by rw [← z]; exact hx)]
  exact hv x hx
theorem FL_stn (j : (FL s a nm st num).J H) {k : Int} (sa : StoreAt K H st) : StoreAt K (upd H nm (.lst [.int k])) st := sa.keep (fun x o hx q => by
  rw [upd_ne fun z => j.2.2.2.2.2.2.1 (by rw [← z]; exact hx)]
  exact q) (tupF j.2.1 rfl)
theorem FL_chg (j : (FL s a nm st num).J H) (c : Chg st st' H H') (sa : StoreAt K H' st') : (FL s a nm st' num).J H' := by
  obtain ⟨⟨⟨v, p, q, hp, hs⟩, ns, ha, hl⟩, hn, d1, d2, o1, o2, o3, hv⟩ := j
  have no : ∀ {x o}, ¬ own st x → H x = some o → ¬ own st' x := fun {x o} h e z => by
    rcases c.n x z with y | y
    · exact h y
    · rw [y] at e
      cases e
  refine ⟨⟨⟨v, p, q, hp, c.k _ _ o1 hs⟩, ns, c.k _ _ o2 ha, hl⟩, c.k _ _ o3 hn, d1, d2, no o1 hs, no o2 ha, no o3 hn, fun x hx => ?_⟩
  obtain ⟨o, h, _⟩ := sa.live hx
  rw [h]
  exact fun z => nomatch z
theorem dv_nm (j : (FL s a nm st num).J H) : Dv (FL s a nm st num) H (.ref nm) (.lst [.int num]) := .lst (fun e => j.2.2.2.1 (show nm = s from e).symm) j.2.1 (.cons (.int _) .nil)
end
theorem EvAC.use {F : Fr} {t : TA} {σ : L2.St} {H : Hp} {C : List D → Prop} (h : EvAC F t σ H C) (jj : F.J H) {Q : List V → Hp → Prop} (q : ∀ vs H2 ds, Ext F H H2 → C ds → DvA F H2 vs ds → Q vs H2) : t σ H Q := h H (Ext.refl jj) Q q
/-- store.handle(letter, time), its answer dropped -/
theorem s_handle {K : PySem.W.Frag} {F : Fr} {σ : L2.St} {H : Hp} {t : TA} {CA : List D → Prop} {D' : Ends} {st : Sto} {i : Nat} (jj : F.J H) (hx : σ[i]? = some (some (.ref st.ad))) (p : preS K F H st) (h : EvAC F t σ H CA)
    (k : ∀ vs H2 ds, Ext F H H2 → CA ds → DvA F H2 vs ds → sp_S_handle K (.ref st.ad :: vs) H2 (fun _ H3 => D'.nx σ H3) E0) : tDrop (tMeth (aStore K) "handle" (sp_S_handle K) [] E0 (tVar i) t) D' σ H :=
  ⟨_, hx, st.ad, _, _, rfl, p.2.ins, rfl, h.use jj fun vs H2 ds e2 c hv => by
    rw [List.append_nil]
    exact k vs H2 ds e2 c hv⟩
theorem s_handleS {K : PySem.W.Frag} {F : Fr} {σ : L2.St} {H : Hp} {t : TA} {CA : List D → Prop} {D' : Ends} {u : TS} {st : Sto} {i : Nat} (jj : F.J H) (hx : σ[i]? = some (some (.ref st.ad))) (p : preS K F H st) (h : EvAC F t σ H CA)
    (k : ∀ vs H2 ds, Ext F H H2 → CA ds → DvA F H2 vs ds → sp_S_handle K (.ref st.ad :: vs) H2 (fun _ H3 => u D' σ H3) E0) : tSeq (tDrop (tMeth (aStore K) "handle" (sp_S_handle K) [] E0 (tVar i) t)) u D' σ H := s_handle jj hx p h k
/-- store.settle(time) -/
theorem s_settle {K : PySem.W.Frag} {σ : L2.St} {H : Hp} {D' : Ends} {st : Sto} {i j : Nat} {time : Int} (hx : σ[i]? = some (some (.ref st.ad))) (ht : σ[j]? = some (some (.int time))) (sa : StoreAt K H st) (ok : StOk st)
    (k : ∀ H3, StoreAt K H3 (settleF time st) → Chg st (settleF time st) H H3 → D'.nx σ H3) : tDrop (tMeth (aStore K) "settle" (sp_S_settle K) [] E0 (tVar i) (tCons (tVar j) tNil)) D' σ H :=
  ⟨_, hx, st.ad, _, _, rfl, sa.ins, rfl, _, ht, st, time, rfl, sa, ok, fun p xs H3 a c _ _ _ _ => k H3 a c⟩
theorem s_settleS {K : PySem.W.Frag} {σ : L2.St} {H : Hp} {D' : Ends} {u : TS} {st : Sto} {i j : Nat} {time : Int} (hx : σ[i]? = some (some (.ref st.ad))) (ht : σ[j]? = some (some (.int time))) (sa : StoreAt K H st) (ok : StOk st)
    (k : ∀ H3, StoreAt K H3 (settleF time st) → Chg st (settleF time st) H H3 → u D' σ H3) : tSeq (tDrop (tMeth (aStore K) "settle" (sp_S_settle K) [] E0 (tVar i) (tCons (tVar j) tNil))) u D' σ H := s_settle hx ht sa ok k
/-- a write of a new number -/
theorem hw_of {K : PySem.W.Frag} {F : Fr} {H : Hp} {st : Sto} {v : V} {h : Int} {g : Gr} {time num : Int} {Q : VK} (sa : StoreAt K H st) (inv : SInv st time num) (hn : num ≤ 199) (hv : Dv F H v (.tup [.str "write", .int h, .int 0, .int num, kG g])) (gk : GOk g)
    (k : ∀ H', StoreAt K H' (settleF time (writeF st ⟨h, 0, num, g⟩)) → Chg st (settleF time (writeF st ⟨h, 0, num, g⟩)) H H' → SInv (settleF time (writeF st ⟨h, 0, num, g⟩)) time (num + 1) → Q .non H') (hq : ∀ v H', Q .non H' → Q v H') : sp_S_handle K [.ref st.ad, v, .int time] H Q E0 := by
  have im : (D.tup [.str "write", .int h, .int 0, .int num, kG g]).imm = true := by
    show (true && (true && (true && (true && ((kG g).imm && true))))) = true
    rw [imm_kG]
    rfl
  have hv0 : Dv F0 H v (.tup [.str "write", .int h, .int 0, .int num, kG g]) := hv.cast (fun _ _ z => z) im
  have i2 := (inv.write (w := ⟨h, 0, num, g⟩) rfl gk).settle
  have nn := inv.n
  refine ⟨st, v, time, rfl, sa, Or.inl ⟨⟨st, v, ⟨h, 0, num, g⟩, time, rfl, hv0, sa, inv.ok (by omega), by omega, inv.wk, inv.wn, fun y hy => key_ok (gk y hy), fun v2 H' a c => hq v2 H' (k H' a c i2)⟩, _, hv0⟩⟩
def sp_w_store_step (K : PySem.W.Frag) : Sp := fun vs H Q _ => ∃ s a nm st, ∃ time num : Int, vs = [.ref s, .ref st.ad, .int time, .ref nm] ∧ (FL s a nm st num).J H ∧ StoreAt K H st ∧ SInv st time num ∧ num ≤ 150 ∧
  ∀ st' (time' : Int) H', st'.ad = st.ad → (FL s a nm st' (num + 1)).J H' → StoreAt K H' st' → SInv st' time' (num + 1) → time ≤ time' → time' ≤ time + 3 → Q (.int time') H'
end Le

namespace Le
open PySem PySem.Spec PyProof.Rows L2
local macro_rules | `(tactic| wtm_at "ev1") => `(tactic| first
  | with_reducible exact ev_int | with_reducible exact ev_str | with_reducible exact ev_bl | with_reducible exact ev_non
  | with_reducible apply ev_var | with_reducible apply ev_op | with_reducible apply ev_chain
  | with_reducible apply ev_and | with_reducible apply ev_or | with_reducible apply ev_not
  | with_reducible apply et_and | with_reducible apply et_or | with_reducible apply et_not | with_reducible apply et_test | with_reducible apply et_B | with_reducible apply et_tru
  | with_reducible apply ev_if
  | with_reducible apply ev_tup | with_reducible apply ev_lst | with_reducible apply ea_cons | with_reducible exact ea_nil | with_reducible apply ev_cb
  | with_reducible exact rv_add | with_reducible exact rv_sub | with_reducible exact rv_lt | with_reducible exact rv_le | with_reducible exact rv_gt | with_reducible exact rv_ge
  | with_reducible exact rv_S | with_reducible exact rv_eqS | with_reducible exact rv_neS | with_reducible exact rv_eqI | with_reducible exact rv_neI | with_reducible exact rv_isN | with_reducible exact rv_notN | with_reducible exact rv_isB
  | with_reducible apply rv_ixT | with_reducible apply rv_ixL
  | with_reducible exact rc_lenL | with_reducible exact rc_lenT | with_reducible exact rc_list | with_reducible exact rc_tuple | with_reducible exact rc_intI | with_reducible exact rc_intB | with_reducible exact rc_min | with_reducible exact rc_max
  | wtm_at "evc"
  | (with_reducible apply dv_id; assumption) | (with_reducible apply dv_mono; assumption) | with_reducible apply dv_pin
  | (with_reducible intro _) | (with_reducible apply at_id; assumption) | exact rfl | (with_reducible apply le_id; exact Nat.le_of_ble_eq_true rfl))
local macro_rules | `(tactic| wtm_at "ev") => `(tactic| repeat' (wtm_at "ev1"))
local macro_rules | `(tactic| wtm_at "jj") => `(tactic| first | assumption | exact Ext.j (by assumption))
local macro_rules | `(tactic| wtm_at "evc") => `(tactic| first | with_reducible apply ev_contains | with_reducible apply ev_includes | with_reducible apply ev_touches | with_reducible apply ev_cover_of | with_reducible apply ev_w_cover_of | with_reducible apply ev_w_within | with_reducible apply ev_w_touches | with_reducible apply ev_least_record | with_reducible apply ev_selected | with_reducible apply ev_w_rows | with_reducible apply ev_ask | with_reducible apply ev_w_ask | with_reducible apply ev_apply | with_reducible apply ev_at | with_reducible apply ev_w_at | with_reducible apply ev_results | with_reducible apply ev_w_results | with_reducible apply ev_is_answer_at | with_reducible apply ev_is_true_at | with_reducible apply ev_is_true | with_reducible apply ev_w_is_true | with_reducible apply ev_supports_newest | with_reducible apply ev_supports | with_reducible apply ev_w_supports | with_reducible apply ev_accepts | with_reducible apply ev_w_accepts | with_reducible apply ev_w_is_right | with_reducible apply ev_w_reach | with_reducible apply ev_w_mix | with_reducible apply ev_w_number | with_reducible apply ev_w_is_integer | with_reducible apply ev_w_tells)
section
variable {P : Program} {w : World} {K : PySem.W.Frag} {mg : Str → Option Value} {base : Heap}
theorem sc_w_store_step : FnScope ["_law_state_here", "_law_store", "_law_time", "_law_numbers", "_law_kind", "_law_number_here", "_law_host"] ["_law_state_here", "_law_store", "_law_time", "_law_numbers"] d_w_store_step.scope := ⟨rfl, rfl, rfl, by decide +kernel, rfl, by decide +kernel, by decide +kernel⟩
theorem g_w_store_step (T : Tx K mg) (G_w_draw : Good P w K mg base 3 "_law_draw" ["_law_state_here", "_law_many"] sp_w_draw) (G_S_handle : GoodM P w K mg base 6 (aStore K) "handle" ["self", "letter", "time"] (sp_S_handle K)) (G_w_group : Good P w K mg base 5 "_law_group" ["_law_state_here"] sp_w_group) (G_w_cover : Good P w K mg base 5 "_law_cover" ["_law_state_here"] sp_w_cover) (G_S_leases : GoodM P w K mg base 2 (aStore K) "leases" ["self"] (sp_S_leases K)) (G_S_settle : GoodM P w K mg base 4 (aStore K) "settle" ["self", "time"] (sp_S_settle K)) : Good P w K mg base 7 "_law_store_step" ["_law_state_here", "_law_store", "_law_time", "_law_numbers"] (sp_w_store_step K) := by
  refine good_def (D_w_store_step T.c) (T.glo _ (F_g_w_store_step T.c)) (fun _ _ _ _ _ _ us hl => match us, hl with | [_, _, _, _], _ => rfl) sc_w_store_step (fun vs H Q E ⟨_, _, _, _, _, _, h, _⟩ => by rw [h]; rfl) ⟨_, fun f cdv A outer s H E hr =>
    (pss_cons (ps_set (i := 4) sc_w_store_step.nd rfl (Or.inl rfl) (pe_cG G_w_draw (hr.mono (by decide)) rfl (pa_cons (pv 0) (pa_cons pe_int pa_nil))))
      (pss_cons (ps_set (i := 5) sc_w_store_step.nd rfl (Or.inl rfl) (pe_ix (k_ix_list (K := K) rfl) (pv 3) pe_int (fun _ _ => rfl)))
      (pss_cons (ps_asg (pe_op op_add (pv 5) pe_int) (pg_sub (pv 3) pe_int set_list))
      (pss_cons (ps_set (i := 6) sc_w_store_step.nd rfl (Or.inl rfl) (pe_cG G_w_draw (hr.mono (by decide)) rfl (pa_cons (pv 0) (pa_cons pe_int pa_nil))))
      (pss_cons (ps_if (pt_cmpR op_lt (pv 4) pe_int (nomark _)) (pss_one (ps_expr (pe_mG G_S_handle hr (pv 1) (pa_cons (pe_tup (pa_cons pe_str (pa_cons (pv 6) (pa_cons pe_int (pa_cons (pv 5) (pa_cons (pe_cG G_w_group (hr.mono (by decide)) rfl (pa_cons (pv 0) pa_nil)) pa_nil)))))) (pa_cons (pv 2) pa_nil))))) (pss_one (ps_if (pt_cmpR op_lt (pv 4) pe_int (nomark _)) (pss_one (ps_expr (pe_mG G_S_handle hr (pv 1) (pa_cons (pe_tup (pa_cons pe_str (pa_cons (pv 6) (pa_cons pe_int (pa_cons (pv 5) (pa_cons (pe_cG G_w_cover (hr.mono (by decide)) rfl (pa_cons (pv 0) pa_nil)) pa_nil)))))) (pa_cons (pv 2) pa_nil))))) (pss_one (ps_if (pt_cmpR op_eq (pv 4) pe_int (nomark _)) (pss_one (ps_expr (pe_mG G_S_handle hr (pv 1) (pa_cons (pe_tup (pa_cons pe_str (pa_cons (pv 6) (pa_cons pe_int (pa_cons (pe_cG G_w_draw (hr.mono (by decide)) rfl (pa_cons (pv 0) (pa_cons (pe_op op_add pe_int (pe_callB (k_len (K := K) rfl) (by rfl) (T.free _ (F_b_len T.c)) (by decide +kernel) (pa_cons (pe_m0G G_S_leases (hr.mono (by decide)) (pv 1)) pa_nil))) pa_nil))) pa_nil))))) (pa_cons (pv 2) pa_nil))))) (pss_cons (ps_set (i := 2) sc_w_store_step.nd rfl (Or.inl rfl) (pe_op op_add (pe_op op_add (pv 2) pe_int) (pe_cG G_w_draw (hr.mono (by decide)) rfl (pa_cons (pv 0) (pa_cons pe_int pa_nil)))))
      (pss_one (ps_expr (pe_mG G_S_settle (hr.mono (by decide)) (pv 1) (pa_cons (pv 2) pa_nil))))))))))
      (pss_one (ps_ret (pv 2)))))))), ?_⟩
  rintro vs H Q E ⟨s, a, nm, st, time, num, rfl, j, sa, inv, hn, kk⟩
  have dr := drw_FL (s := s) (a := a) (nm := nm) (st := st) (num := num)
  apply s_setCS j (ec_draw dr (n := 8) (ea_cons (ev_var rfl (.adr _)) (ea_cons ev_int ea_nil)) (by decide) (by decide))
  rintro v4 H1 d4 e1 ⟨kind, rfl, k0, k1⟩ h4
  cases h4.int_inv
  apply s_setS (d := .int num) e1.j
  · exact ev_op (ev_var rfl (dv_nm e1.j)) ev_int (rv_ixL rfl)
  intro v5 H2 e2 h5
  cases h5.int_inv
  apply s_itemS (C := fun x => x = .int (num + 1)) (p := nm) (xs := [.int num]) (n := 0) e2.j
  · exact Ev.toC1 (ev_op (ev_var rfl (.int _)) ev_int rv_add)
  · rfl
  · exact fun H3 e3 => e3.j.2.1
  · rfl
  rintro v3 H3 d3 e3 rfl h3
  cases h3.int_inv
  show tSeq _ _ _ _ (upd H3 nm (.lst [.int (num + 1)]))
  have sa3 := sa.mono ((e1.trans e2).trans e3) (sro_FL j)
  have j4 := FL_num e3.j (k := num + 1)
  have sa4 := FL_stn e3.j (k := num + 1) sa3
  generalize upd H3 nm (.lst [.int (num + 1)]) = H4 at *
  have dr4 := drw_FL (s := s) (a := a) (nm := nm) (st := st) (num := num + 1)
  apply s_setCS j4 (ec_draw dr4 (n := 2) (ea_cons (ev_var rfl (.adr _)) (ea_cons ev_int ea_nil)) (by decide) (by decide))
  rintro v6 H5 d6 e5 ⟨host, rfl, g0, g1⟩ h6
  cases h6.int_inv
  have sa5 := sa4.mono e5 (sro_FL j4)
  have fin : ∀ st' (time' : Int) H', st'.ad = st.ad → (FL s a nm st' (num + 1)).J H' → StoreAt K H' st' → SInv st' time' (num + 1) → time ≤ time' → time' ≤ time + 3 → tRet (tVar 2) { nx := fun _ H' => Q .non H', rt := Q } [some (.ref s), some (.ref st.ad), some (.int time'), some (.ref nm), some (.int kind), some (.int num), some (.int host)] H' :=
    fun st' time' H' h1 h2 h3 h4 h5 h6 => ⟨_, rfl, kk st' time' H' h1 h2 h3 h4 h5 h6⟩
  apply s_ifES e5.j (b := decide (kind < 3))
  · exact et_test (ev_op (ev_var rfl (.int _)) ev_int rv_lt)
  · intro _ H6 e6
    have sa6 := sa5.mono e6 (sro_FL j4)
    apply s_handle e6.j rfl ⟨sro_FL j4, sa6⟩ (eac_cons (ec_tup (eac_cons (Ev.toC1 ev_str) (eac_cons (Ev.toC1 (ev_var rfl (.int _))) (eac_cons (Ev.toC1 ev_int) (eac_cons (Ev.toC1 (ev_var rfl (.int _))) (eac_cons (ec_group dr4 (ea_cons (ev_var rfl (.adr _)) ea_nil)) eac_nil))))) ?_) (eac_cons (Ev.toC1 (ev_var rfl (.int _))) eac_nil))
    · rintro vs7 H7 ds e7 ⟨d, r, rfl, ⟨es, rfl, d1, r1, rfl, rfl, d2, r2, rfl, rfl, d3, r3, rfl, rfl, d4, r4, rfl, rfl, d5, r5, rfl, ⟨g, rfl, gk, _⟩, rfl⟩, d6, r6, rfl, rfl, rfl⟩ hv7
      obtain ⟨x1, x2, rfl, hx1, hx2⟩ := hv7.two
      cases hx2.int_inv
      have sa7 := sa6.mono e7 (sro_FL j4)
      refine hw_of sa7 inv (by omega) hx1 gk (fun H8 a8 c8 i8 => ?_) fun _ _ z => z
      exact fin _ time H8 (Eq.trans (settle_ad (st := writeF st ⟨host, 0, num, g⟩) (inv.write rfl gk)) rfl) (FL_chg e7.j c8 a8) a8 i8 (Int.le_refl _) (by omega)
    · rintro ds ⟨d, r, rfl, _, d2, r2, rfl, _, d3, r3, rfl, _, d4, r4, rfl, _, d5, r5, rfl, _, rfl⟩
      exact Nat.le_of_ble_eq_true rfl
  intro _ H6 e6
  have sa6 := sa5.mono e6 (sro_FL j4)
  apply s_if e6.j (b := decide (kind < 5))
  · exact et_test (ev_op (ev_var rfl (.int _)) ev_int rv_lt)
  · intro _ H7 e7
    have sa7 := sa6.mono e7 (sro_FL j4)
    apply s_handle e7.j rfl ⟨sro_FL j4, sa7⟩ (eac_cons (ec_tup (eac_cons (Ev.toC1 ev_str) (eac_cons (Ev.toC1 (ev_var rfl (.int _))) (eac_cons (Ev.toC1 ev_int) (eac_cons (Ev.toC1 (ev_var rfl (.int _))) (eac_cons (ec_cover dr4 (ea_cons (ev_var rfl (.adr _)) ea_nil)) eac_nil))))) ?_) (eac_cons (Ev.toC1 (ev_var rfl (.int _))) eac_nil))
    · rintro vs8 H8 ds e8 ⟨d, r, rfl, ⟨es, rfl, d1, r1, rfl, rfl, d2, r2, rfl, rfl, d3, r3, rfl, rfl, d4, r4, rfl, rfl, d5, r5, rfl, ⟨c, rfl, m1, m2⟩, rfl⟩, d6, r6, rfl, rfl, rfl⟩ hv8
      obtain ⟨x1, x2, rfl, hx1, hx2⟩ := hv8.two
      cases hx2.int_inv
      have sa8 := sa7.mono e8 (sro_FL j4)
      have hx0 : Dv F0 H8 x1 (.tup [.str "lease", .int host, .int 0, .int num, kC c]) := hx1.cast (fun _ _ z => z) rfl
      have nl := inv.l
      refine ⟨st, x1, time, rfl, sa8, Or.inr (Or.inl ⟨⟨st, x1, host, 0, num, c, time, rfl, hx0, sa8, inv.ok (by omega), by omega, inv.req, fun _ v9 H9 a9 c9 => ?_, fun _ q v9 H9 a9 c9 => ?_⟩, _, hx0⟩)⟩
      · exact fin st time H9 rfl (FL_chg e8.j c9 a9) a9 (inv.more (by omega)) (Int.le_refl _) (by omega)
      · exact fin (grantF st q ⟨host, 0, num, c, time + st.len, (st.cms.length : Nat), time, false⟩) time H9 rfl (FL_chg e8.j c9 a9) a9 (inv.grant rfl ⟨m1, m2⟩ rfl rfl) (Int.le_refl _) (by omega)
    · rintro ds ⟨d, r, rfl, _, d2, r2, rfl, _, d3, r3, rfl, _, d4, r4, rfl, _, d5, r5, rfl, _, rfl⟩
      exact Nat.le_of_ble_eq_true rfl
  intro _ H7 e7
  have sa7 := sa6.mono e7 (sro_FL j4)
  apply s_if e7.j (b := decide (kind = 5))
  · exact et_test (ev_op (ev_var rfl (.int _)) ev_int rv_eqI)
  · intro _ H8 e8
    have sa8 := sa7.mono e8 (sro_FL j4)
    have nl := inv.l
    apply s_handle e8.j rfl ⟨sro_FL j4, sa8⟩ (eac_cons (ec_tup (eac_cons (Ev.toC1 ev_str) (eac_cons (Ev.toC1 (ev_var rfl (.int _))) (eac_cons (Ev.toC1 ev_int) (eac_cons (ec_draw dr4 (n := 1 + (st.lss.length : Nat)) (ea_cons (ev_var rfl (.adr _)) (ea_cons (ev_op ev_int (ev_cb (d := .int (st.lss.length : Nat)) (ea_cons (ev_leases ⟨sro_FL j4, sa8⟩ (by omega) (ev_var rfl (.adr _))) ea_nil) ?_) rv_add) ea_nil)) (by omega) (by omega)) eac_nil)))) ?_) (eac_cons (Ev.toC1 (ev_var rfl (.int _))) eac_nil))
    · rintro vs9 H9 ds e9 ⟨d, r, rfl, ⟨es, rfl, d1, r1, rfl, rfl, d2, r2, rfl, rfl, d3, r3, rfl, rfl, d4, r4, rfl, ⟨ix, rfl, _, _⟩, rfl⟩, d6, r6, rfl, rfl, rfl⟩ hv9
      obtain ⟨x1, x2, rfl, hx1, hx2⟩ := hv9.two
      cases hx2.int_inv
      have sa9 := sa8.mono e9 (sro_FL j4)
      have hx0 : Dv F0 H9 x1 (.tup [.str "return", .int host, .int 0, .int ix]) := hx1.cast (fun _ _ z => z) rfl
      refine ⟨st, x1, time, rfl, sa9, Or.inr (Or.inr ⟨⟨st, x1, host, 0, ix, time, rfl, hx0, sa9, inv.ok (by omega), fun st' v10 H10 hs a10 c10 => ?_⟩, _, hx0⟩)⟩
      rcases hs with rfl | ⟨k, rfl⟩
      · exact fin st' time H10 rfl (FL_chg e9.j c10 a10) a10 (inv.more (by omega)) (Int.le_refl _) (by omega)
      · exact fin _ time H10 (Eq.trans (settle_ad (st := retL st k) (inv.ret k)) rfl) (FL_chg e9.j c10 a10) a10 ((inv.ret k).settle.more (by omega)) (Int.le_refl _) (by omega)
    · rw [← List.length_map (f := (·.2)) (as := st.lss), ← len_map kLs (st.lss.map (·.2))]
      exact rc_lenL
    · rintro ds ⟨d, r, rfl, _, d2, r2, rfl, _, d3, r3, rfl, _, d4, r4, rfl, _, rfl⟩
      exact Nat.le_of_ble_eq_true rfl
  intro _ H8 e8
  have sa8 := sa7.mono e8 (sro_FL j4)
  apply s_setCS (C := fun d => ∃ t : Int, d = .int t ∧ time + 1 ≤ t ∧ t ≤ time + 3) e8.j
  · refine ec_add (Ev.toC1 (ev_op (ev_var rfl (.int time)) ev_int rv_add)) (ec_draw dr4 (n := 3) (ea_cons (ev_var rfl (.adr _)) (ea_cons ev_int ea_nil)) (by decide) (by decide)) eq_int below_int fun i k c1 c2 => ?_
    injection c1 with c1
    obtain ⟨r, e, r0, r1⟩ := c2
    injection e with e
    exact ⟨i + k, rfl, by omega, by omega⟩
  · rintro v2 H9 d2 e9 ⟨t, rfl, t0, t1⟩ h2
    cases h2.int_inv
    have sa9 := sa8.mono e9 (sro_FL j4)
    have it := (inv.time (now' := t) (by omega)).more (num' := num + 1) (by omega)
    apply s_settle rfl rfl sa9 (it.ok (by omega))
    intro H10 a10 c10
    exact fin _ t H10 (settle_ad it) (FL_chg e9.j c10 a10) a10 it.settle (by omega) (by omega)
end
end Le

namespace Le
open PySem PySem.Spec PyProof.Rows L2
local macro_rules | `(tactic| wtm_at "ev1") => `(tactic| first
  | with_reducible exact ev_int | with_reducible exact ev_str | with_reducible exact ev_bl | with_reducible exact ev_non
  | with_reducible apply ev_var | with_reducible apply ev_op | with_reducible apply ev_chain
  | with_reducible apply ev_and | with_reducible apply ev_or | with_reducible apply ev_not
  | with_reducible apply et_and | with_reducible apply et_or | with_reducible apply et_not | with_reducible apply et_test | with_reducible apply et_B | with_reducible apply et_tru
  | with_reducible apply ev_if
  | with_reducible apply ev_tup | with_reducible apply ev_lst | with_reducible apply ea_cons | with_reducible exact ea_nil | with_reducible apply ev_cb
  | with_reducible exact rv_add | with_reducible exact rv_sub | with_reducible exact rv_lt | with_reducible exact rv_le | with_reducible exact rv_gt | with_reducible exact rv_ge
  | with_reducible exact rv_S | with_reducible exact rv_eqS | with_reducible exact rv_neS | with_reducible exact rv_eqI | with_reducible exact rv_neI | with_reducible exact rv_isN | with_reducible exact rv_notN | with_reducible exact rv_isB
  | with_reducible apply rv_ixT | with_reducible apply rv_ixL
  | with_reducible exact rc_lenL | with_reducible exact rc_lenT | with_reducible exact rc_list | with_reducible exact rc_tuple | with_reducible exact rc_intI | with_reducible exact rc_intB | with_reducible exact rc_min | with_reducible exact rc_max
  | wtm_at "evc"
  | (with_reducible apply dv_id; assumption) | (with_reducible apply dv_mono; assumption) | with_reducible apply dv_pin
  | (with_reducible intro _) | (with_reducible apply at_id; assumption) | exact rfl | (with_reducible apply le_id; exact Nat.le_of_ble_eq_true rfl))
local macro_rules | `(tactic| wtm_at "ev") => `(tactic| repeat' (wtm_at "ev1"))
local macro_rules | `(tactic| wtm_at "jj") => `(tactic| first | assumption | exact Ext.j (by assumption))
local macro_rules | `(tactic| wtm_at "evc") => `(tactic| first | with_reducible apply ev_contains | with_reducible apply ev_includes | with_reducible apply ev_touches | with_reducible apply ev_cover_of | with_reducible apply ev_w_cover_of | with_reducible apply ev_w_within | with_reducible apply ev_w_touches | with_reducible apply ev_least_record | with_reducible apply ev_selected | with_reducible apply ev_w_rows | with_reducible apply ev_ask | with_reducible apply ev_w_ask | with_reducible apply ev_apply | with_reducible apply ev_at | with_reducible apply ev_w_at | with_reducible apply ev_results | with_reducible apply ev_w_results | with_reducible apply ev_is_answer_at | with_reducible apply ev_is_true_at | with_reducible apply ev_is_true | with_reducible apply ev_w_is_true | with_reducible apply ev_supports_newest | with_reducible apply ev_supports | with_reducible apply ev_w_supports | with_reducible apply ev_accepts | with_reducible apply ev_w_accepts | with_reducible apply ev_w_is_right | with_reducible apply ev_w_reach | with_reducible apply ev_w_mix | with_reducible apply ev_w_number | with_reducible apply ev_w_is_integer | with_reducible apply ev_w_tells)
def TOk (st : Sto) (time : Int) : Prop := st.cms.length ≤ 300 ∧ st.lss.length ≤ 300 ∧ 0 ≤ time ∧ time ≤ 1000000 ∧ LOk st.cms
def sp_w_best_evidence (K : PySem.W.Frag) : Sp := SpC (ι := Addr × Addr × Sto × Rd × Int) (fun F H x => Drw F x.1 x.2.1 ∧ preS K F H x.2.2.1 ∧ TOk x.2.2.1 x.2.2.2.2 ∧ QsOk x.2.2.2.1.qs ∧ x.2.2.2.1.qs.length ≤ 3) (fun x => [.adr x.1, .adr x.2.2.1.ad, kRd x.2.2.2.1, .int x.2.2.2.2]) fun _ => isEv
def isAn (d : D) : Prop := ∃ an, d = kAn an ∧ AnOk an
def sp_w_answer (K : PySem.W.Frag) : Sp := SpC (ι := Addr × Addr × Sto × Rd × Int) (fun F H x => Drw F x.1 x.2.1 ∧ preS K F H x.2.2.1 ∧ TOk x.2.2.1 x.2.2.2.2 ∧ QsOk x.2.2.2.1.qs ∧ x.2.2.2.1.qs.length ≤ 3 ∧ 1 ≤ x.2.2.2.1.qs.length) (fun x => [.adr x.1, .adr x.2.2.1.ad, kRd x.2.2.2.1, .int x.2.2.2.2]) fun _ => isAn
def sp_w_told (K : PySem.W.Frag) : Sp := SpG (ι := Sto × Int × Int × Rd × An × Int) (fun F H x => preS K F H x.1 ∧ SInv x.1 x.2.1 x.2.2.2.2.2 ∧ x.2.2.2.2.2 ≤ 200 ∧ 0 ≤ x.2.2.1 ∧ QsOk x.2.2.2.1.qs ∧ PySem.PyData.strOk x.2.2.2.1.ses = true ∧ AnOk x.2.2.2.2.1) (fun x => [.adr x.1.ad, .int x.2.1, .int x.2.2.1, kRd x.2.2.2.1, kAn x.2.2.2.2.1]) fun _ => .bl true
section
variable {F : Fr} {K : PySem.W.Frag} {σ : L2.St} {H H1 : Hp} {t : TA} {te : TE} {tt : TT} {s a : Addr} {st : Sto} {rd : Rd} {time : Int} {C : D → Prop} {P : Bool → Prop} {D' : Ends} {u tb : TS} {i : Nat} {v0 : V} {d0 : D}
theorem ec_best (dr : Drw F s a) (p : preS K F H st) (o : TOk st time ∧ QsOk rd.qs ∧ rd.qs.length ≤ 3) (h : EvA F t σ H [.adr s, .adr st.ad, kRd rd, .int time]) : EvC F (tCall (sp_w_best_evidence K) [] E0 t) σ H isEv :=
  ev_callC (ι := Addr × Addr × Sto × Rd × Int) (s, a, st, rd, time) h rfl (fun _ _ _ _ e z => ⟨z.1, preS.mono e z.2.1, z.2.2⟩) ⟨dr, p, o⟩
theorem ec_answer (dr : Drw F s a) (p : preS K F H st) (o : TOk st time ∧ QsOk rd.qs ∧ rd.qs.length ≤ 3 ∧ 1 ≤ rd.qs.length) (h : EvA F t σ H [.adr s, .adr st.ad, kRd rd, .int time]) : EvC F (tCall (sp_w_answer K) [] E0 t) σ H isAn :=
  ev_callC (ι := Addr × Addr × Sto × Rd × Int) (s, a, st, rd, time) h rfl (fun _ _ _ _ e z => ⟨z.1, preS.mono e z.2.1, z.2.2⟩) ⟨dr, p, o⟩
theorem ev_toldL {fl num : Int} {an : An} (p : preS K F H st) (o : SInv st time num ∧ num ≤ 200 ∧ 0 ≤ fl ∧ QsOk rd.qs ∧ PySem.PyData.strOk rd.ses = true ∧ AnOk an) (h : EvA F t σ H [.adr st.ad, .int time, .int fl, kRd rd, kAn an]) : Ev F (tCall (sp_w_told K) [] E0 t) σ H (.bl true) :=
  ev_callG (ι := Sto × Int × Int × Rd × An × Int) (st, time, fl, rd, an, num) h rfl (fun _ _ _ _ e z => ⟨preS.mono e z.1, z.2⟩) ⟨p, o⟩
/-- if .. : name = .., the name has a value of the kind already -/
theorem s_ifAsgS (jj : F.J H) (h : EvTP F tt σ H P) (he : EvC F te σ H C) (hσ : σ.set i (some v0) = σ) (h0 : Dv F H v0 d0) (c0 : C d0) (k : ∀ v H2 d, Ext F H H2 → C d → Dv F H2 v d → u D' (σ.set i (some v)) H2) : tSeq (tIfS tt (tAsg te (gName i)) tNext) u D' σ H := by
  apply s_ifPS jj h
  · intro H2 e2 _
    exact (he.mono e2).use e2.j fun v H3 d e3 c hv => k v H3 d (e2.trans e3) c hv
  · intro H2 e2 _
    have z := k v0 H2 d0 e2 c0 (h0.mono e2)
    rw [hσ] at z
    exact z
/-- if, the rest shown once -/
theorem s_ifPG {G : Hp → Prop} (jj : F.J H) (h : EvTP F tt σ H P) (tail : ∀ H2, G H2 → u D' σ H2) (h1 : (∀ H2, G H2 → u D' σ H2) → ∀ H2, Ext F H H2 → P true → tb ⟨u D', D'.rt, D'.bk, D'.ct⟩ σ H2) (h2 : ∀ H2, Ext F H H2 → G H2) : tSeq (tIfS tt tb tNext) u D' σ H :=
  s_ifPS jj h (h1 tail) fun H2 e2 _ => tail H2 (h2 H2 e2)
end
end Le

namespace Le
open PySem PySem.Spec PyProof.Rows L2
local macro_rules | `(tactic| wtm_at "ev1") => `(tactic| first
  | with_reducible exact ev_int | with_reducible exact ev_str | with_reducible exact ev_bl | with_reducible exact ev_non
  | with_reducible apply ev_var | with_reducible apply ev_op | with_reducible apply ev_chain
  | with_reducible apply ev_and | with_reducible apply ev_or | with_reducible apply ev_not
  | with_reducible apply et_and | with_reducible apply et_or | with_reducible apply et_not | with_reducible apply et_test | with_reducible apply et_B | with_reducible apply et_tru
  | with_reducible apply ev_if
  | with_reducible apply ev_tup | with_reducible apply ev_lst | with_reducible apply ea_cons | with_reducible exact ea_nil | with_reducible apply ev_cb
  | with_reducible exact rv_add | with_reducible exact rv_sub | with_reducible exact rv_lt | with_reducible exact rv_le | with_reducible exact rv_gt | with_reducible exact rv_ge
  | with_reducible exact rv_S | with_reducible exact rv_eqS | with_reducible exact rv_neS | with_reducible exact rv_eqI | with_reducible exact rv_neI | with_reducible exact rv_isN | with_reducible exact rv_notN | with_reducible exact rv_isB
  | with_reducible apply rv_ixT | with_reducible apply rv_ixL
  | with_reducible exact rc_lenL | with_reducible exact rc_lenT | with_reducible exact rc_list | with_reducible exact rc_tuple | with_reducible exact rc_intI | with_reducible exact rc_intB | with_reducible exact rc_min | with_reducible exact rc_max
  | wtm_at "evc"
  | (with_reducible apply dv_id; assumption) | (with_reducible apply dv_mono; assumption) | with_reducible apply dv_pin
  | (with_reducible intro _) | (with_reducible apply at_id; assumption) | exact rfl | (with_reducible apply le_id; exact Nat.le_of_ble_eq_true rfl))
local macro_rules | `(tactic| wtm_at "ev") => `(tactic| repeat' (wtm_at "ev1"))
local macro_rules | `(tactic| wtm_at "jj") => `(tactic| first | assumption | exact Ext.j (by assumption))
local macro_rules | `(tactic| wtm_at "evc") => `(tactic| first | with_reducible apply ev_contains | with_reducible apply ev_includes | with_reducible apply ev_touches | with_reducible apply ev_cover_of | with_reducible apply ev_w_cover_of | with_reducible apply ev_w_within | with_reducible apply ev_w_touches | with_reducible apply ev_least_record | with_reducible apply ev_selected | with_reducible apply ev_w_rows | with_reducible apply ev_ask | with_reducible apply ev_w_ask | with_reducible apply ev_apply | with_reducible apply ev_at | with_reducible apply ev_w_at | with_reducible apply ev_results | with_reducible apply ev_w_results | with_reducible apply ev_is_answer_at | with_reducible apply ev_is_true_at | with_reducible apply ev_is_true | with_reducible apply ev_w_is_true | with_reducible apply ev_supports_newest | with_reducible apply ev_supports | with_reducible apply ev_w_supports | with_reducible apply ev_accepts | with_reducible apply ev_w_accepts | with_reducible apply ev_w_is_right | with_reducible apply ev_w_reach | with_reducible apply ev_w_mix | with_reducible apply ev_w_number | with_reducible apply ev_w_is_integer | with_reducible apply ev_w_tells)
section
variable {P : Program} {w : World} {K : PySem.W.Frag} {mg : Str → Option Value} {base : Heap}
theorem sc_w_answer : FnScope ["_law_state_here", "_law_store", "_law_read_here", "_law_time", "_law_ledger", "_law_moment", "_law_of", "_law_results_here", "_law_evidence_here"] ["_law_state_here", "_law_store", "_law_read_here", "_law_time"] d_w_answer.scope := ⟨rfl, rfl, rfl, by decide +kernel, rfl, by decide +kernel, by decide +kernel⟩
theorem g_w_answer (T : Tx K mg) (G_S_ledger : GoodM P w K mg base 1 (aStore K) "ledger" ["self"] (sp_S_ledger K)) (G_w_draw : Good P w K mg base 3 "_law_draw" ["_law_state_here", "_law_many"] sp_w_draw) (G_w_results : Good P w K mg base 3 "_law_results" ["_law_ledger", "_law_questions", "_law_moment"] sp_w_results) (G_w_best_evidence : Good P w K mg base 6 "_law_best_evidence" ["_law_state_here", "_law_store", "_law_read_here", "_law_time"] (sp_w_best_evidence K)) (G_w_evidence : Good P w K mg base 5 "_law_evidence" ["_law_state_here", "_law_ledger", "_law_leases", "_law_time", "_law_read_here"] sp_w_evidence) (G_S_leases : GoodM P w K mg base 2 (aStore K) "leases" ["self"] (sp_S_leases K)) : Good P w K mg base 7 "_law_answer" ["_law_state_here", "_law_store", "_law_read_here", "_law_time"] (sp_w_answer K) := by
  refine good_def (D_w_answer T.c) (T.glo _ (F_g_w_answer T.c)) (fun _ _ _ _ _ _ us hl => match us, hl with | [_, _, _, _], _ => rfl) sc_w_answer (len_C fun _ => rfl) ⟨_, fun f cdv A outer s H E hr =>
    (pss_cons (ps_set (i := 4) sc_w_answer.nd rfl (Or.inl rfl) (pe_m0G G_S_ledger (hr.mono (by decide)) (pv 1)))
      (pss_cons (ps_set (i := 5) sc_w_answer.nd rfl (Or.inl rfl) (pe_op op_sub (pe_callB (k_len (K := K) rfl) (by rfl) (T.free _ (F_b_len T.c)) (by decide +kernel) (pa_cons (pv 4) pa_nil)) (pe_callB (call_min' rfl) (by rfl) (T.free _ (F_b_min T.c)) (by decide +kernel) (pa_cons (pe_callB (k_len (K := K) rfl) (by rfl) (T.free _ (F_b_len T.c)) (by decide +kernel) (pa_cons (pv 4) pa_nil)) (pa_cons (pe_cG G_w_draw (hr.mono (by decide)) rfl (pa_cons (pv 0) (pa_cons pe_int pa_nil))) pa_nil)))))
      (pss_cons (ps_if (pt_cmpR op_eq (pe_cG G_w_draw (hr.mono (by decide)) rfl (pa_cons (pv 0) (pa_cons pe_int pa_nil))) pe_int (nomark _)) (pss_one (ps_set (i := 5) sc_w_answer.nd rfl (Or.inl rfl) (pe_op op_sub (pe_cG G_w_draw (hr.mono (by decide)) rfl (pa_cons (pv 0) (pa_cons (pe_op op_add (pe_callB (k_len (K := K) rfl) (by rfl) (T.free _ (F_b_len T.c)) (by decide +kernel) (pa_cons (pv 4) pa_nil)) pe_int) pa_nil))) pe_int))) pss_nil)
      (pss_cons (ps_set (i := 6) sc_w_answer.nd rfl (Or.inl rfl) (pe_callB (call_max' rfl) (by rfl) (T.free _ (F_b_max T.c)) (by decide +kernel) (pa_cons pe_int (pa_cons (pe_callB (call_min' rfl) (by rfl) (T.free _ (F_b_min T.c)) (by decide +kernel) (pa_cons (pe_callB (k_len (K := K) rfl) (by rfl) (T.free _ (F_b_len T.c)) (by decide +kernel) (pa_cons (pv 4) pa_nil)) (pa_cons (pv 5) pa_nil))) pa_nil))))
      (pss_cons (ps_if (pt_cmpR op_eq (pe_cG G_w_draw (hr.mono (by decide)) rfl (pa_cons (pv 0) (pa_cons pe_int pa_nil))) pe_int (nomark _)) (pss_one (ps_set (i := 6) sc_w_answer.nd rfl (Or.inl rfl) (pe_cG G_w_draw (hr.mono (by decide)) rfl (pa_cons (pv 0) (pa_cons (pe_op op_add (pe_callB (k_len (K := K) rfl) (by rfl) (T.free _ (F_b_len T.c)) (by decide +kernel) (pa_cons (pv 4) pa_nil)) pe_int) pa_nil))))) pss_nil)
      (pss_cons (ps_set (i := 7) sc_w_answer.nd rfl (Or.inl rfl) (pe_cG G_w_results (hr.mono (by decide)) rfl (pa_cons (pv 4) (pa_cons (pe_ix (k_ix_tup (K := K) rfl) (pv 2) pe_int (fun _ _ => rfl)) (pa_cons (pv 6) pa_nil)))))
      (pss_cons (ps_if (pt_cmpR op_eq (pe_cG G_w_draw (hr.mono (by decide)) rfl (pa_cons (pv 0) (pa_cons pe_int pa_nil))) pe_int (nomark _)) (pss_one (ps_asg (pe_ix (k_ix_list (K := K) rfl) (pe_lst (pa_cons pe_non (pa_cons pe_int (pa_cons pe_int (pa_cons (pe_tup pa_nil) (pa_cons pe_int pa_nil)))))) (pe_cG G_w_draw (hr.mono (by decide)) rfl (pa_cons (pv 0) (pa_cons pe_int pa_nil))) (fun _ _ => rfl)) (pg_sub (pv 7) pe_int set_list))) pss_nil)
      (pss_cons (ps_set (i := 8) sc_w_answer.nd rfl (Or.inl rfl) (pe_cG G_w_best_evidence hr rfl (pa_cons (pv 0) (pa_cons (pv 1) (pa_cons (pv 2) (pa_cons (pv 3) pa_nil))))))
      (pss_cons (ps_if (pt_cmpR op_eq (pe_cG G_w_draw (hr.mono (by decide)) rfl (pa_cons (pv 0) (pa_cons pe_int pa_nil))) pe_int (nomark _)) (pss_one (ps_set (i := 8) sc_w_answer.nd rfl (Or.inl rfl) (pe_cG G_w_evidence (hr.mono (by decide)) rfl (pa_cons (pv 0) (pa_cons (pv 4) (pa_cons (pe_m0G G_S_leases (hr.mono (by decide)) (pv 1)) (pa_cons (pv 3) (pa_cons (pv 2) pa_nil)))))))) pss_nil)
      (pss_cons (ps_if (pt_cmpR op_eq (pe_cG G_w_draw (hr.mono (by decide)) rfl (pa_cons (pv 0) (pa_cons pe_int pa_nil))) pe_int (nomark _)) (pss_one (ps_set (i := 8) sc_w_answer.nd rfl (Or.inl rfl) (pe_slice (k_sl_list (K := K) rfl) (pv 8) (po_some pe_int) po_none))) pss_nil)
      (pss_one (ps_ret (pe_tup (pa_cons (pv 7) (pa_cons (pv 5) (pa_cons (pv 8) pa_nil)))))))))))))))), ?_⟩
  rintro vs H Q E ⟨F, ⟨s, a, st, rd, time⟩, j, hv, ⟨dr, pS, tok, qk, ql, q1⟩, kk⟩
  obtain ⟨v1, v2, v3, v4, rfl, h1, h2, h3, h4⟩ := hv.four
  have h1' : Dv F H v1 (.adr s) := h1
  have h2' : Dv F H v2 (.adr st.ad) := h2
  have h3' : Dv F H v3 (.tup [.int rd.num, .str rd.ses, kQs rd.qs, kP rd.pr]) := h3
  have h4' : Dv F H v4 (.int time) := h4
  have c3 : st.cms.length ≤ 300 := tok.1
  have l3 : st.lss.length ≤ 300 := tok.2.1
  have t0 : 0 ≤ time := tok.2.2.1
  have t1 : time ≤ 1000000 := tok.2.2.2.1
  have lok : LOk st.cms := tok.2.2.2.2
  have ql' : rd.qs.length ≤ 3 := ql
  have q1' : 1 ≤ rd.qs.length := q1
  have qk' : QsOk rd.qs := qk
  have pS' : preS K F H st := pS
  cases h1'.adr_inv
  cases h2'.adr_inv
  apply s_setS j (ev_ledger pS' (ev_var rfl h2'))
  intro v5 H1 e1 h5
  have len : ∀ {σ : L2.St} {H2 : Hp} {v : V}, σ[4]? = some (some v) → Dv F H2 v (kLg st.cms) → Ev F (tCB (rLen K) (tCons (tVar 4) tNil)) σ H2 (.int (st.cms.length : Nat)) := by
    intro σ H2 v hx hv
    refine ev_cb (ea_cons (ev_var hx hv) ea_nil) ?_
    rw [← len_map kCm st.cms]
    exact rc_lenL
  have drw : ∀ {σ : L2.St} {H2 : Hp} {n : Int}, σ[0]? = some (some (.ref s)) → 0 < n → n < 1073741824 → EvC F (tCall sp_w_draw [] E0 (tCons (tVar 0) (tCons (tC (.int n)) tNil))) σ H2 (Below n) := fun hx h0 h1 => ec_draw dr (ea_cons (ev_var hx (.adr _)) (ea_cons ev_int ea_nil)) h0 h1
  apply s_setCS (C := isInt) e1.j
  · refine ec_sub (Ev.toC1 (len rfl h5)) (ec_cb (C := isInt) (eac_cons (Ev.toC1 (len rfl h5)) (eac_cons (drw (n := 4) rfl (by decide) (by decide)) eac_nil)) ?_) eq_int (fun _ z => z) fun i k _ _ => ⟨_, rfl⟩
    rintro ds H2 e2 ⟨d, r, rfl, rfl, d2, r2, rfl, ⟨k, rfl, _⟩, rfl⟩
    exact ⟨_, ⟨_, rfl⟩, rc_min⟩
  rintro v6 H2 d2 e2 ⟨m0, rfl⟩ h6
  have h52 := h5.mono e2
  apply s_ifAsgS (C := isInt) e2.j (etp_bool (ec_eqI (drw (n := 8) rfl (by decide) (by decide)) below_int)) ?_ rfl h6 ⟨m0, rfl⟩
  · rintro v7 H3 d3 e3 ⟨m, rfl⟩ h7
    have h53 := h52.mono e3
    apply s_setCS (C := fun d => ∃ i : Int, d = .int i ∧ 0 ≤ i) e3.j
    · refine (ev_cb (ea_cons ev_int (ea_cons (ev_cb (ea_cons (len rfl h53) (ea_cons (ev_var rfl h7) ea_nil)) rc_min) ea_nil)) rc_max).toC ⟨_, rfl, ?_⟩
      split <;> omega
    rintro v8 H4 d4 e4 ⟨of0, rfl, of00⟩ h8
    have h54 := h53.mono e4
    apply s_ifAsgS (C := fun d => ∃ i : Int, d = .int i ∧ 0 ≤ i) e4.j (etp_bool (ec_eqI (drw (n := 6) rfl (by decide) (by decide)) below_int)) ?_ rfl h8 ⟨of0, rfl, of00⟩
    · rintro v9 H5 d5 e5 ⟨of1, rfl, of10⟩ h9
      have h55 := h54.mono e5
      have e15 := (((e1.trans e2).trans e3).trans e4).trans e5
      have h35 := h3'.mono e15
      apply s_setNS e5.j (en_w_results (l := st.cms) (qs := rd.qs) (m := of1) (ea_cons (ev_var rfl h55) (ea_cons (ev_op (ev_var rfl h35) ev_int (rv_ixT rfl)) (ea_cons (ev_var rfl h9) ea_nil))) ⟨lok, of10, qk'⟩)
      intro p H6 xs hp e6 hx hda
      have nU : ¬ F.U p := fun u => F.live e5.j u hp
      have nS : ¬ F.S p := fun z => nU (F.sub z)
      have lr : (resF st.cms rd.qs of1.toNat).length = rd.qs.length := List.length_map _
      apply s_ifPG (G := fun G => Ext F H5 G ∧ ∃ ys found, G p = some (.lst ys) ∧ DvA F G ys found ∧ fitA false 2 found = true ∧ List.length found ≤ 1000) e6.j (etp_bool (ec_eqI (drw (n := 8) rfl (by decide) (by decide)) below_int))
      · rintro H7 ⟨e7, ys, found, hy, hdy, hfit, hlen⟩
        have e17 := e15.trans e7
        have h57 := h55.mono e7
        have h37 := h3'.mono e17
        have h47 := h4'.mono e17
        have p7 := preS.mono e17 pS'
        apply s_setCS e7.j (ec_best dr p7 ⟨tok, qk', ql'⟩ (ea_cons (ev_var rfl (.adr _)) (ea_cons (ev_var rfl (.adr _)) (ea_cons (ev_var rfl h37) (ea_cons (ev_var rfl h47) ea_nil)))))
        rintro v10 H8 d8 e8 ⟨ev0, rfl, evl0⟩ h10
        have h58 := h57.mono e8
        have h38 := h37.mono e8
        have h48 := h47.mono e8
        have p8 := preS.mono e8 p7
        have h38' : Dv F H8 v3 (kRd rd) := h38
        have len2 : (st.lss.map (·.2)).length ≤ 1000 := by
          rw [List.length_map]
          omega
        apply s_ifAsgS (C := isEv) e8.j (etp_bool (ec_eqI (drw (n := 4) rfl (by decide) (by decide)) below_int)) ?_ rfl h10 ⟨ev0, rfl, evl0⟩
        · rintro v11 H9 d9 e9 ⟨ev1, rfl, evl1⟩ h11
          apply s_ifAsgS (C := isEv) e9.j (etp_bool (ec_eqI (drw (n := 8) rfl (by decide) (by decide)) below_int)) ?_ rfl h11 ⟨ev1, rfl, evl1⟩
          · rintro v12 H10 d10 e10 ⟨ev2, rfl, evl2⟩ h12
            have e710 := (e8.trans e9).trans e10
            have dp : Dv F H10 (.ref p) (.lst found) := (Dv.lst nS hy hdy).mono e710
            have hm : Dv F H10 v7 (.int m) := h7.mono ((((e4.trans e5).trans e7).trans e710))
            apply s_ret (d := kAn ⟨found, m, ev2⟩) e10.j
            · exact ev_tup (ea_cons (ev_var rfl dp) (ea_cons (ev_var rfl hm) (ea_cons (ev_var rfl h12) ea_nil))) (Nat.le_of_ble_eq_true rfl)
            · intro v13 H11 e11 h13
              exact kk v13 H11 _ ((e17.trans e710).trans e11) ⟨⟨found, m, ev2⟩, rfl, ⟨hfit, hlen⟩, by show ev2.length ≤ 1000; omega⟩ h13
          · refine (ev_slFrom1 (ev_var rfl h11)).toC ⟨ev1.drop 1, ?_, ?_⟩
            · show D.lst _ = D.lst ((ev1.drop 1).map kS)
              rw [List.map_drop]
            · rw [List.length_drop]
              omega
        · exact ec_evidence dr (l := st.cms) (ls := st.lss.map (·.2)) (time := time) (rd := rd) (ea_cons (ev_var rfl (.adr _)) (ea_cons (ev_var rfl h58) (ea_cons (ev_leases p8 (by omega) (ev_var rfl (.adr _))) (ea_cons (ev_var rfl h48) (ea_cons (ev_var rfl h38') ea_nil))))) ⟨⟨by show st.cms.length ≤ 1000; omega, len2, t0, t1⟩, qk', ql'⟩
      · intro tail H7 e7 _
        have hx7 := e7.k p _ nS hx
        have e67 : Ext F H5 H7 := e6.trans e7
        apply s_item (C := fun d => d.fit false 2 = true ∧ d.imm = true) (p := p) (xs := xs) (n := 0) e7.j
        · refine ec_pick (n := 5) (ec_lit (ds := [.non, .int 0, .int 1, .tup [], .int 77]) ?_ rfl ?_) (drw (n := 5) rfl (by decide) (by decide))
          · exact ev_lst (ea_cons ev_non (ea_cons ev_int (ea_cons ev_int (ea_cons (ev_tup ea_nil (Nat.le_of_ble_eq_true rfl)) (ea_cons ev_int ea_nil))))) (Nat.le_of_ble_eq_true rfl)
          · intro x hx
            rcases List.mem_cons.mp hx with rfl | hx
            · exact ⟨rfl, rfl⟩
            rcases List.mem_cons.mp hx with rfl | hx
            · exact ⟨rfl, rfl⟩
            rcases List.mem_cons.mp hx with rfl | hx
            · exact ⟨rfl, rfl⟩
            rcases List.mem_cons.mp hx with rfl | hx
            · exact ⟨rfl, rfl⟩
            rw [List.mem_singleton.mp hx]
            exact ⟨rfl, rfl⟩
        · rfl
        · exact fun H8 e8 => e8.k p _ nS hx7
        · have lx : xs.length = rd.qs.length := hda.len.trans lr
          unfold ixN
          rw [if_pos (by decide), if_pos (by omega)]
          rfl
        · rintro v10 H8 d8 e8 ⟨fd, im⟩ h10
          have e68 := e67.trans e8
          have hx8 := e8.k p _ nS hx7
          have tk := tupF (u := .lst (xs.set 0 v10)) hx8 rfl
          have im0 : immA (resF st.cms rd.qs of1.toNat) = true := immA_map (imm_askF _) _
          refine tail _ ⟨mutF e68 hp nU hx8 rfl, xs.set 0 v10, (resF st.cms rd.qs of1.toNat).set 0 d8, upd_same, ?_, ?_, ?_⟩
          · exact ((hda.mono (e7.trans e8)).cast tk im0).set 0 (h10.cast tk im)
          · refine fitA_all.mpr fun z hz => ?_
            rcases List.mem_or_eq_of_mem_set hz with y | y
            · exact fitA_all.mp (fit_resF st.cms rd.qs of1.toNat) z y
            · rw [y]
              exact fd
          · rw [List.length_set, lr]
            omega
      · intro H7 e7
        exact ⟨e6.trans e7, xs, _, e7.k p _ nS hx, hda.mono e7, fit_resF _ _ _, by rw [lr]; omega⟩
    · exact (ec_draw dr (n := (st.cms.length : Nat) + 1) (ea_cons (ev_var rfl (.adr _)) (ea_cons (ev_op (len rfl h54) ev_int rv_add) ea_nil)) (by omega) (by omega)).imp fun d ⟨r, e, r0, _⟩ => ⟨r, e, r0⟩
  · exact ec_sub (ec_draw dr (n := (st.cms.length : Nat) + 3) (ea_cons (ev_var rfl (.adr _)) (ea_cons (ev_op (len rfl h52) ev_int rv_add) ea_nil)) (by omega) (by omega)) (Ev.toC1 ev_int) below_int eq_int fun i k _ _ => ⟨_, rfl⟩
end
end Le

namespace Le
open PySem PySem.Spec PyProof.Rows L2
local macro_rules | `(tactic| wtm_at "ev1") => `(tactic| first
  | with_reducible exact ev_int | with_reducible exact ev_str | with_reducible exact ev_bl | with_reducible exact ev_non
  | with_reducible apply ev_var | with_reducible apply ev_op | with_reducible apply ev_chain
  | with_reducible apply ev_and | with_reducible apply ev_or | with_reducible apply ev_not
  | with_reducible apply et_and | with_reducible apply et_or | with_reducible apply et_not | with_reducible apply et_test | with_reducible apply et_B | with_reducible apply et_tru
  | with_reducible apply ev_if
  | with_reducible apply ev_tup | with_reducible apply ev_lst | with_reducible apply ea_cons | with_reducible exact ea_nil | with_reducible apply ev_cb
  | with_reducible exact rv_add | with_reducible exact rv_sub | with_reducible exact rv_lt | with_reducible exact rv_le | with_reducible exact rv_gt | with_reducible exact rv_ge
  | with_reducible exact rv_S | with_reducible exact rv_eqS | with_reducible exact rv_neS | with_reducible exact rv_eqI | with_reducible exact rv_neI | with_reducible exact rv_isN | with_reducible exact rv_notN | with_reducible exact rv_isB
  | with_reducible apply rv_ixT | with_reducible apply rv_ixL
  | with_reducible exact rc_lenL | with_reducible exact rc_lenT | with_reducible exact rc_list | with_reducible exact rc_tuple | with_reducible exact rc_intI | with_reducible exact rc_intB | with_reducible exact rc_min | with_reducible exact rc_max
  | wtm_at "evc"
  | (with_reducible apply dv_id; assumption) | (with_reducible apply dv_mono; assumption) | with_reducible apply dv_pin
  | (with_reducible intro _) | (with_reducible apply at_id; assumption) | exact rfl | (with_reducible apply le_id; exact Nat.le_of_ble_eq_true rfl))
local macro_rules | `(tactic| wtm_at "ev") => `(tactic| repeat' (wtm_at "ev1"))
local macro_rules | `(tactic| wtm_at "jj") => `(tactic| first | assumption | exact Ext.j (by assumption))
local macro_rules | `(tactic| wtm_at "evc") => `(tactic| first | with_reducible apply ev_contains | with_reducible apply ev_includes | with_reducible apply ev_touches | with_reducible apply ev_cover_of | with_reducible apply ev_w_cover_of | with_reducible apply ev_w_within | with_reducible apply ev_w_touches | with_reducible apply ev_least_record | with_reducible apply ev_selected | with_reducible apply ev_w_rows | with_reducible apply ev_ask | with_reducible apply ev_w_ask | with_reducible apply ev_apply | with_reducible apply ev_at | with_reducible apply ev_w_at | with_reducible apply ev_results | with_reducible apply ev_w_results | with_reducible apply ev_is_answer_at | with_reducible apply ev_is_true_at | with_reducible apply ev_is_true | with_reducible apply ev_w_is_true | with_reducible apply ev_supports_newest | with_reducible apply ev_supports | with_reducible apply ev_w_supports | with_reducible apply ev_accepts | with_reducible apply ev_w_accepts | with_reducible apply ev_w_is_right | with_reducible apply ev_w_reach | with_reducible apply ev_w_mix | with_reducible apply ev_w_number | with_reducible apply ev_w_is_integer | with_reducible apply ev_w_tells)
theorem fit_kC {c : Cov} (h1 : c.1 ∈ keys) (h2 : c.2 ∈ keys) {b : Bool} : (kC c).fit b 1 = true := by simp [kC, D.fit, fitA, key_ok h1, key_ok h2]
theorem fit_kQ {q : Qu} (h : q.ok) {b : Bool} : (kQ q).fit b 1 = true := by
  have g1 : PySem.PyData.strOk "get" = true := by decide +kernel
  have g2 : PySem.PyData.strOk "count" = true := by decide +kernel
  have g3 : PySem.PyData.strOk "sum" = true := by decide +kernel
  have g4 : PySem.PyData.strOk "list" = true := by decide +kernel
  have g5 : PySem.PyData.strOk "least" = true := by decide +kernel
  obtain ⟨h1, h2⟩ := h
  cases q with
  | get k => simp [kQ, D.fit, fitA, g1, key_ok (show k ∈ keys from h1)]
  | cnt c => simp [kQ, D.fit, fitA, g2, key_ok (show c.1 ∈ keys from h1), key_ok (show c.2 ∈ keys from h2)]
  | sum c => simp [kQ, D.fit, fitA, g3, key_ok (show c.1 ∈ keys from h1), key_ok (show c.2 ∈ keys from h2)]
  | lst c => simp [kQ, D.fit, fitA, g4, key_ok (show c.1 ∈ keys from h1), key_ok (show c.2 ∈ keys from h2)]
  | lea c => simp [kQ, D.fit, fitA, g5, key_ok (show c.1 ∈ keys from h1), key_ok (show c.2 ∈ keys from h2)]
theorem fit_kP (p : Pr) {b : Bool} : (kP p).fit b 1 = true := by
  have g1 : PySem.PyData.strOk "any" = true := by decide +kernel
  have g2 : PySem.PyData.strOk "newest" = true := by decide +kernel
  have g3 : PySem.PyData.strOk "age" = true := by decide +kernel
  cases p <;> simp [kP, D.fit, fitA, g1, g2, g3]
theorem fit_lst {b : Bool} {n : Nat} {α : Type} {f : α → D} {l : List α} (h : ∀ x, x ∈ l → (f x).fit b n = true) : (D.lst (l.map f)).fit b (n + 1) = true := by
  rw [D.fit]
  refine fitA_all.mpr fun d hd => ?_
  obtain ⟨x, hx, rfl⟩ := List.mem_map.mp hd
  exact h x hx
theorem fit_tup {b : Bool} {n : Nat} {α : Type} {f : α → D} {l : List α} (h : ∀ x, x ∈ l → (f x).fit b n = true) : (D.tup (l.map f)).fit b (n + 1) = true := by
  rw [D.fit]
  refine fitA_all.mpr fun d hd => ?_
  obtain ⟨x, hx, rfl⟩ := List.mem_map.mp hd
  exact h x hx
theorem fit_kRd {rd : Rd} (h : QsOk rd.qs) (hs : PySem.PyData.strOk rd.ses = true) : (kRd rd).fit true 3 = true := by
  have q : (kQs rd.qs).fit true 2 = true := fit_lst fun x hx => fit_kQ (h.1 x hx)
  have p : (kP rd.pr).fit true 2 = true := fit_mono (fit_kP rd.pr) (by decide)
  simp [kRd, D.fit, fitA] at q ⊢
  refine ⟨hs, ?_, p⟩
  simpa using q
mutual
theorem fit_bool : ∀ (n : Nat) (d : D), d.fit false n = true → d.fit true n = true
  | _, .non, _ => by rw [D.fit]
  | _, .bl _, h => by simp [D.fit] at h
  | _, .int _, _ => by rw [D.fit]
  | _, .str _, h => by
    rw [D.fit] at h ⊢
    exact h
  | 0, .tup _, h => by simp [D.fit] at h
  | n + 1, .tup xs, h => by
    rw [D.fit] at h ⊢
    exact fitA_bool n xs h
  | 0, .lst _, h => by simp [D.fit] at h
  | n + 1, .lst xs, h => by
    rw [D.fit] at h ⊢
    exact fitA_bool n xs h
  | _, .dic _, h => by simp [D.fit] at h
  | _, .adr _, h => by simp [D.fit] at h
theorem fitA_bool : ∀ (n : Nat) (ds : List D), fitA false n ds = true → fitA true n ds = true
  | _, [], _ => by rw [fitA]
  | n, d :: ds, h => by
    rw [fitA, Bool.and_eq_true] at h ⊢
    exact ⟨fit_bool n d h.1, fitA_bool n ds h.2⟩
end
theorem fit_t3 {b : Bool} {n : Nat} {x y z : D} (h1 : x.fit b n = true) (h2 : y.fit b n = true) (h3 : z.fit b n = true) : (D.tup [x, y, z]).fit b (n + 1) = true := by
  rw [D.fit]
  refine fitA_all.mpr fun d hd => ?_
  rcases List.mem_cons.mp hd with rfl | hd
  · exact h1
  rcases List.mem_cons.mp hd with rfl | hd
  · exact h2
  rw [List.mem_singleton.mp hd]
  exact h3
theorem fit_t2 {b : Bool} {n : Nat} {x y : D} (h1 : x.fit b n = true) (h2 : y.fit b n = true) : (D.tup [x, y]).fit b (n + 1) = true := by
  rw [D.fit]
  refine fitA_all.mpr fun d hd => ?_
  rcases List.mem_cons.mp hd with rfl | hd
  · exact h1
  rw [List.mem_singleton.mp hd]
  exact h2
theorem fit_kAn {an : An} (h : AnOk an) : (kAn an).fit true 4 = true := by
  refine fit_t3 ?_ (by rw [D.fit]) (fit_mono (fit_lst (n := 1) fun x _ => fit_kS x) (by decide))
  rw [D.fit]
  exact fitA_bool 2 _ h.1.1
theorem fit_kCm {c : Cm} (h : GOk c.2) {b : Bool} : (kCm c).fit b 3 = true := by
  refine fit_t2 (by rw [D.fit]) (fit_tup (n := 1) fun x hx => ?_)
  have z := key_ok (h x hx)
  have o : (oD x.2).fit b 0 = true := fit_oD _
  exact fit_t2 (by rw [D.fit]; exact z) o
theorem fit_kLs {l : Ls} (h : l.cov.1 ∈ keys ∧ l.cov.2 ∈ keys) : (kLs l).fit true 2 = true := by
  have z : (kC l.cov).fit true 1 = true := fit_kC h.1 h.2
  rw [D.fit]
  refine fitA_all.mpr fun d hd => ?_
  rcases List.mem_cons.mp hd with rfl | hd
  · rw [D.fit]
  rcases List.mem_cons.mp hd with rfl | hd
  · rw [D.fit]
  rcases List.mem_cons.mp hd with rfl | hd
  · rw [D.fit]
  rcases List.mem_cons.mp hd with rfl | hd
  · exact z
  rcases List.mem_cons.mp hd with rfl | hd
  · rw [D.fit]
  rcases List.mem_cons.mp hd with rfl | hd
  · rw [D.fit]
  rcases List.mem_cons.mp hd with rfl | hd
  · rw [D.fit]
  rw [List.mem_singleton.mp hd]
  rw [D.fit]
section
variable {P : Program} {w : World} {K : PySem.W.Frag} {mg : Str → Option Value} {base : Heap}
theorem sc_w_told : FnScope ["_law_store", "_law_time", "_law_floor", "_law_read_here", "_law_answer_here", "_law_ledger", "_law_leases", "_law_passed", "_law_given", "_law_lists", "_law_due"] ["_law_store", "_law_time", "_law_floor", "_law_read_here", "_law_answer_here"] d_w_told.scope := ⟨rfl, rfl, rfl, by decide +kernel, rfl, by decide +kernel, by decide +kernel⟩
theorem g_w_told (T : Tx K mg) (G_S_ledger : GoodM P w K mg base 1 (aStore K) "ledger" ["self"] (sp_S_ledger K)) (G_S_leases : GoodM P w K mg base 2 (aStore K) "leases" ["self"] (sp_S_leases K)) (G_w_accepts : Good P w K mg base 6 "_law_accepts" ["_law_ledger", "_law_leases", "_law_time", "_law_floor", "_law_read_here", "_law_answer_here"] sp_w_accepts) (G_w_tells : Good P w K mg base 1 "_law_tells" ["_law_actual", "_law_due"] sp_w_tells) (G_accepts : Good P w K mg base 6 "accepts" ["ledger", "leases", "time", "floor", "read", "answer"] sp_accepts) (G_w_is_right : Good P w K mg base 6 "_law_is_right" ["_law_ledger", "_law_time", "_law_floor", "_law_read_here", "_law_answer_here"] sp_w_is_right) : Good P w K mg base 7 "_law_told" ["_law_store", "_law_time", "_law_floor", "_law_read_here", "_law_answer_here"] (sp_w_told K) := by
  refine good_def (D_w_told T.c) (T.glo _ (F_g_w_told T.c)) (fun _ _ _ _ _ _ us hl => match us, hl with | [_, _, _, _, _], _ => rfl) sc_w_told (len_G fun _ => rfl) ⟨_, fun f cdv A outer s H E hr =>
    (pss_cons (ps_set (i := 5) sc_w_told.nd rfl (Or.inl rfl) (pe_m0G G_S_ledger (hr.mono (by decide)) (pv 0)))
      (pss_cons (ps_set (i := 6) sc_w_told.nd rfl (Or.inl rfl) (pe_m0G G_S_leases (hr.mono (by decide)) (pv 0)))
      (pss_cons (ps_set (i := 7) sc_w_told.nd rfl (Or.inl rfl) (pe_tup (pa_cons (pe_ix (k_ix_tup (K := K) rfl) (pv 3) pe_int (fun _ _ => rfl)) (pa_cons (pe_ix (k_ix_tup (K := K) rfl) (pv 3) pe_int (fun _ _ => rfl)) (pa_cons (pe_callTy (k_list (K := K) rfl) (by rfl) (T.free _ (F_b_list T.c)) (by decide +kernel) (pa_cons (pe_ix (k_ix_tup (K := K) rfl) (pv 3) pe_int (fun _ _ => rfl)) pa_nil)) (pa_cons (pe_ix (k_ix_tup (K := K) rfl) (pv 3) pe_int (fun _ _ => rfl)) pa_nil))))))
      (pss_cons (ps_set (i := 8) sc_w_told.nd rfl (Or.inl rfl) (pe_tup (pa_cons (pe_callTy (k_list (K := K) rfl) (by rfl) (T.free _ (F_b_list T.c)) (by decide +kernel) (pa_cons (pe_ix (k_ix_tup (K := K) rfl) (pv 4) pe_int (fun _ _ => rfl)) pa_nil)) (pa_cons (pe_ix (k_ix_tup (K := K) rfl) (pv 4) pe_int (fun _ _ => rfl)) (pa_cons (pe_callTy (k_list (K := K) rfl) (by rfl) (T.free _ (F_b_list T.c)) (by decide +kernel) (pa_cons (pe_ix (k_ix_tup (K := K) rfl) (pv 4) pe_int (fun _ _ => rfl)) pa_nil)) pa_nil)))))
      (pss_cons (ps_set (i := 9) sc_w_told.nd rfl (Or.inl rfl) (pe_tup (pa_cons (pe_callTy (k_list (K := K) rfl) (by rfl) (T.free _ (F_b_list T.c)) (by decide +kernel) (pa_cons (pv 5) pa_nil)) (pa_cons (pe_callTy (k_list (K := K) rfl) (by rfl) (T.free _ (F_b_list T.c)) (by decide +kernel) (pa_cons (pv 6) pa_nil)) pa_nil))))
      (pss_cons (ps_set (i := 10) sc_w_told.nd rfl (Or.inl rfl) (pe_cG G_w_accepts hr rfl (pa_cons (pv 5) (pa_cons (pv 6) (pa_cons (pv 1) (pa_cons (pv 2) (pa_cons (pv 3) (pa_cons (pv 4) pa_nil))))))))
      (pss_cons (ps_if (pt_not (pt_val (pe_cG G_w_tells (hr.mono (by decide)) rfl (pa_cons (pe_cG G_accepts hr rfl (pa_cons (pe_ix (k_ix_tup (K := K) rfl) (pv 9) pe_int (fun _ _ => rfl)) (pa_cons (pe_ix (k_ix_tup (K := K) rfl) (pv 9) pe_int (fun _ _ => rfl)) (pa_cons (pv 1) (pa_cons (pv 2) (pa_cons (pv 7) (pa_cons (pv 8) pa_nil))))))) (pa_cons (pv 10) pa_nil))))) (pss_one (ps_ret pe_bl)) pss_nil)
      (pss_cons (ps_if (PW.pt (pw_or (pt_cmpR (k_neD (K := K) rfl hr.units) (pv 7) (pv 3) (nomark _)) (pw_or (pt_cmpR (k_neD (K := K) rfl hr.units) (pv 8) (pv 4) (nomark _)) (pw_or1 (pt_cmpR (k_neD (K := K) rfl hr.units) (pv 9) (pe_tup (pa_cons (pv 5) (pa_cons (pv 6) pa_nil))) (nomark _)))))) (pss_one (ps_ret pe_bl)) pss_nil)
      (pss_one (ps_ret (pe_or (pe_not (pv 10)) (pe_one (pe_cG G_w_is_right hr rfl (pa_cons (pv 5) (pa_cons (pv 1) (pa_cons (pv 2) (pa_cons (pv 3) (pa_cons (pv 4) pa_nil)))))))))))))))))), ?_⟩
  rintro vs H Q E ⟨F, ⟨st, time, fl, rd, an, num⟩, j, hv, ⟨pS, inv, hn, f0, qk, sk, ak⟩, kk⟩
  obtain ⟨v1, v2, v3, v4, v5, rfl, h1, h2, h3, h4, h5⟩ := hv.five
  have pS' : preS K F H st := pS
  have inv' : SInv st time num := inv
  have hn' : num ≤ 200 := hn
  have f0' : 0 ≤ fl := f0
  have qk' : QsOk rd.qs := qk
  have sk' : PySem.PyData.strOk rd.ses = true := sk
  have ak' : AnOk an := ak
  have h1' : Dv F H v1 (.adr st.ad) := h1
  have h2' : Dv F H v2 (.int time) := h2
  have h3' : Dv F H v3 (.int fl) := h3
  have h4' : Dv F H v4 (kRd rd) := h4
  have h5' : Dv F H v5 (kAn an) := h5
  have h4t : Dv F H v4 (.tup [.int rd.num, .str rd.ses, kQs rd.qs, kP rd.pr]) := h4
  have h5t : Dv F H v5 (.tup [.lst an.found, .int an.mom, kSs an.ev]) := h5
  have ll : st.lss.length ≤ 1000 := by
    have := inv'.l
    omega
  apply s_setS j (ev_ledger pS' (ev_var rfl h1'))
  intro v6 H1 e1 h6
  apply s_setS e1.j (ev_leases (preS.mono e1 pS') ll (ev_var rfl (h1'.mono e1)))
  intro v7 H2 e2 h7
  have e02 := e1.trans e2
  apply s_setS (d := kRd rd) e2.j
  · have h := h4t.mono e02
    refine ev_tup (ea_cons (ev_op (ev_var rfl h) ev_int (rv_ixT rfl)) (ea_cons (ev_op (ev_var rfl h) ev_int (rv_ixT rfl)) (ea_cons (ev_cb (ea_cons (ev_op (ev_var rfl h) ev_int (rv_ixT rfl)) ea_nil) rc_list) (ea_cons (ev_op (ev_var rfl h) ev_int (rv_ixT rfl)) ea_nil)))) (Nat.le_of_ble_eq_true rfl)
  intro v8 H3 e3 h8
  have e03 := e02.trans e3
  apply s_setS (d := kAn an) e3.j
  · have h := h5t.mono e03
    refine ev_tup (ea_cons (ev_cb (ea_cons (ev_op (ev_var rfl h) ev_int (rv_ixT rfl)) ea_nil) rc_list) (ea_cons (ev_op (ev_var rfl h) ev_int (rv_ixT rfl)) (ea_cons (ev_cb (ea_cons (ev_op (ev_var rfl h) ev_int (rv_ixT rfl)) ea_nil) rc_list) ea_nil))) (Nat.le_of_ble_eq_true rfl)
  intro v9 H4 e4 h9
  have e04 := e03.trans e4
  have h64 := ((h6.mono e2).mono e3).mono e4
  have h74 := (h7.mono e3).mono e4
  apply s_setS (d := .tup [kLg st.cms, kLss (st.lss.map (·.2))]) e4.j
  · exact ev_tup (ea_cons (ev_cb (ea_cons (ev_var rfl h64) ea_nil) rc_list) (ea_cons (ev_cb (ea_cons (ev_var rfl h74) ea_nil) rc_list) ea_nil)) (Nat.le_of_ble_eq_true rfl)
  intro v10 H5 e5 h10
  have e05 := e04.trans e5
  have h65 := h64.mono e5
  have h75 := h74.mono e5
  apply s_setS e5.j (ev_w_accepts (l := st.cms) (ls := st.lss.map (·.2)) (time := time) (fl := fl) (rd := rd) (an := an) (ea_cons (ev_var rfl h65) (ea_cons (ev_var rfl h75) (ea_cons (ev_var rfl (h2'.mono e05)) (ea_cons (ev_var rfl (h3'.mono e05)) (ea_cons (ev_var rfl (h4'.mono e05)) (ea_cons (ev_var rfl (h5'.mono e05)) ea_nil)))))) ⟨inv'.gc, f0', ak', qk'⟩)
  intro v11 H6 e6 h11
  have e06 := e05.trans e6
  have h66 := h65.mono e6
  have h76 := h75.mono e6
  have h86 := ((h8.mono e4).mono e5).mono e6
  have h96 := (h9.mono e5).mono e6
  have h106 := h10.mono e6
  generalize eacc : acc st.cms (st.lss.map (·.2)) time fl rd an = ac at *
  apply s_ifFS (b := !(decide (ac = ac))) e6.j
  · refine et_not (et_B (ev_w_tells (a := ac) (b := ac) (ea_cons (d := .bl ac) ?_ (ea_cons (ev_var rfl h11) ea_nil))))
    rw [← eacc]
    apply ev_accepts (l := st.cms) (ls := st.lss.map (·.2)) (time := time) (fl := fl) (rd := rd) (an := an)
    · apply ea_cons
      · exact ev_op (ev_var rfl h106) ev_int (rv_ixT rfl)
      · apply ea_cons
        · exact ev_op (ev_var rfl h106) ev_int (rv_ixT rfl)
        · apply ea_cons
          · exact ev_var rfl (h2'.mono e06)
          · apply ea_cons
            · exact ev_var rfl (h3'.mono e06)
            · apply ea_cons
              · exact ev_var rfl h86
              · apply ea_cons
                · exact ev_var rfl h96
                · exact ea_nil
    · exact ⟨inv'.gc, f0', ak', qk'⟩
  · rw [decide_eq_true rfl]
    rfl
  intro H7 e7
  have e07 := e06.trans e7
  have fit5 : (D.tup [kLg st.cms, kLss (st.lss.map (·.2))]).fit true 5 = true := by
    refine fit_t2 (fit_lst (n := 3) fun c hc => fit_kCm (inv'.gc c hc)) (fit_mono (fit_lst (n := 2) fun l hl => ?_) (by decide))
    obtain ⟨p, hp, rfl⟩ := List.mem_map.mp hl
    exact fit_kLs (inv'.cov p hp)
  apply s_ifFS (b := false || (false || false)) e7.j
  · apply et_or (b1 := false)
    · apply et_test
      exact ev_op (ev_var rfl (h86.mono e7)) (ev_var rfl (h4'.mono e07)) (rv_neSelf 3 (fit_kRd qk' sk') (by decide))
    · intro _
      apply et_or (b1 := false)
      · apply et_test
        exact ev_op (ev_var rfl (h96.mono e7)) (ev_var rfl (h5'.mono e07)) (rv_neSelf 4 (fit_kAn ak') (by decide))
      · intro _
        apply et_test
        exact ev_op (ev_var rfl (h106.mono e7)) (ev_tup (ea_cons (ev_var rfl (h66.mono e7)) (ea_cons (ev_var rfl (h76.mono e7)) ea_nil)) (Nat.le_of_ble_eq_true rfl)) (rv_neSelf 5 fit5 (by decide))
  · rfl
  intro H8 e8
  have e08 := e07.trans e8
  have e68 := e7.trans e8
  apply s_retK (d1 := .bl (!ac || right st.cms time fl rd an)) e8.j
  · apply ev_or
    · exact ev_not (ev_var rfl (h11.mono e68))
    · intro _
      exact ev_w_is_right (l := st.cms) (time := time) (fl := fl) (rd := rd) (an := an) (ea_cons (ev_var rfl (h66.mono e68)) (ea_cons (ev_var rfl (h2'.mono e08)) (ea_cons (ev_var rfl (h3'.mono e08)) (ea_cons (ev_var rfl (h4'.mono e08)) (ea_cons (ev_var rfl (h5'.mono e08)) ea_nil))))) ⟨inv'.gc, f0', ak', qk'⟩
  · exact fun v H9 e9 hv => kk v H9 (e08.trans e9) hv
  · cases q : ac with
    | false => rfl
    | true =>
      rw [q] at eacc
      rw [sound inv' f0' eacc]
      rfl
end
end Le

namespace Le
open PySem PySem.Spec PyProof.Rows L2
local macro_rules | `(tactic| wtm_at "ev1") => `(tactic| first
  | with_reducible exact ev_int | with_reducible exact ev_str | with_reducible exact ev_bl | with_reducible exact ev_non
  | with_reducible apply ev_var | with_reducible apply ev_op | with_reducible apply ev_chain
  | with_reducible apply ev_and | with_reducible apply ev_or | with_reducible apply ev_not
  | with_reducible apply et_and | with_reducible apply et_or | with_reducible apply et_not | with_reducible apply et_test | with_reducible apply et_B | with_reducible apply et_tru
  | with_reducible apply ev_if
  | with_reducible apply ev_tup | with_reducible apply ev_lst | with_reducible apply ea_cons | with_reducible exact ea_nil | with_reducible apply ev_cb
  | with_reducible exact rv_add | with_reducible exact rv_sub | with_reducible exact rv_lt | with_reducible exact rv_le | with_reducible exact rv_gt | with_reducible exact rv_ge
  | with_reducible exact rv_S | with_reducible exact rv_eqS | with_reducible exact rv_neS | with_reducible exact rv_eqI | with_reducible exact rv_neI | with_reducible exact rv_isN | with_reducible exact rv_notN | with_reducible exact rv_isB
  | with_reducible apply rv_ixT | with_reducible apply rv_ixL
  | with_reducible exact rc_lenL | with_reducible exact rc_lenT | with_reducible exact rc_list | with_reducible exact rc_tuple | with_reducible exact rc_intI | with_reducible exact rc_intB | with_reducible exact rc_min | with_reducible exact rc_max
  | wtm_at "evc"
  | (with_reducible apply dv_id; assumption) | (with_reducible apply dv_mono; assumption) | with_reducible apply dv_pin
  | (with_reducible intro _) | (with_reducible apply at_id; assumption) | exact rfl | (with_reducible apply le_id; exact Nat.le_of_ble_eq_true rfl))
local macro_rules | `(tactic| wtm_at "ev") => `(tactic| repeat' (wtm_at "ev1"))
local macro_rules | `(tactic| wtm_at "jj") => `(tactic| first | assumption | exact Ext.j (by assumption))
local macro_rules | `(tactic| wtm_at "evc") => `(tactic| first | with_reducible apply ev_contains | with_reducible apply ev_includes | with_reducible apply ev_touches | with_reducible apply ev_cover_of | with_reducible apply ev_w_cover_of | with_reducible apply ev_w_within | with_reducible apply ev_w_touches | with_reducible apply ev_least_record | with_reducible apply ev_selected | with_reducible apply ev_w_rows | with_reducible apply ev_ask | with_reducible apply ev_w_ask | with_reducible apply ev_apply | with_reducible apply ev_at | with_reducible apply ev_w_at | with_reducible apply ev_results | with_reducible apply ev_w_results | with_reducible apply ev_is_answer_at | with_reducible apply ev_is_true_at | with_reducible apply ev_is_true | with_reducible apply ev_w_is_true | with_reducible apply ev_supports_newest | with_reducible apply ev_supports | with_reducible apply ev_w_supports | with_reducible apply ev_accepts | with_reducible apply ev_w_accepts | with_reducible apply ev_w_is_right | with_reducible apply ev_w_reach | with_reducible apply ev_w_mix | with_reducible apply ev_w_number | with_reducible apply ev_w_is_integer | with_reducible apply ev_w_tells)
section
variable {P : Program} {w : World} {K : PySem.W.Frag} {mg : Str → Option Value} {base : Heap}
theorem sc_w_best_evidence : FnScope ["_law_state_here", "_law_store", "_law_read_here", "_law_time", "_law_leases", "_law_found", "_law_question_here", "_law_fitting", "_law_k"] ["_law_state_here", "_law_store", "_law_read_here", "_law_time"] d_w_best_evidence.scope := ⟨rfl, rfl, rfl, by decide +kernel, rfl, by decide +kernel, by decide +kernel⟩
theorem g_w_best_evidence (T : Tx K mg) (G_S_leases : GoodM P w K mg base 2 (aStore K) "leases" ["self"] (sp_S_leases K)) (G_S_ledger : GoodM P w K mg base 1 (aStore K) "ledger" ["self"] (sp_S_ledger K)) (G_w_within : Good P w K mg base 1 "_law_within" ["_law_outer", "_law_inner"] sp_w_within) (G_w_cover_of : Good P w K mg base 1 "_law_cover_of" ["_law_question_here"] sp_w_cover_of) (G_w_evidence : Good P w K mg base 5 "_law_evidence" ["_law_state_here", "_law_ledger", "_law_leases", "_law_time", "_law_read_here"] sp_w_evidence) (G_w_draw : Good P w K mg base 3 "_law_draw" ["_law_state_here", "_law_many"] sp_w_draw) : Good P w K mg base 6 "_law_best_evidence" ["_law_state_here", "_law_store", "_law_read_here", "_law_time"] (sp_w_best_evidence K) := by
  refine good_def (D_w_best_evidence T.c) (T.glo _ (F_g_w_best_evidence T.c)) (fun _ _ _ _ _ _ us hl => match us, hl with | [_, _, _, _], _ => rfl) sc_w_best_evidence (len_C fun _ => rfl) ⟨_, fun f cdv A outer s H E hr =>
    (pss_cons (ps_set (i := 4) sc_w_best_evidence.nd rfl (Or.inl rfl) (pe_m0G G_S_leases (hr.mono (by decide)) (pv 1)))
      (pss_cons (ps_if (pt_cmpR op_eq (pe_ix (k_ix_tup (K := K) rfl) (pe_ix (k_ix_tup (K := K) rfl) (pv 2) pe_int (fun _ _ => rfl)) pe_int (fun _ _ => rfl)) pe_str (nomark _)) (pss_one (ps_ret (pe_lst (pa_cons (pe_tup (pa_cons pe_str (pa_cons (pv 3) (pa_cons (pe_callB (k_len (K := K) rfl) (by rfl) (T.free _ (F_b_len T.c)) (by decide +kernel) (pa_cons (pe_m0G G_S_ledger (hr.mono (by decide)) (pv 1)) pa_nil)) pa_nil)))) pa_nil)))) pss_nil)
      (pss_cons (ps_if (pt_cmpR op_eq (pe_ix (k_ix_tup (K := K) rfl) (pe_ix (k_ix_tup (K := K) rfl) (pv 2) pe_int (fun _ _ => rfl)) pe_int (fun _ _ => rfl)) pe_str (nomark _)) (pss_one (ps_ret (pe_lst pa_nil))) pss_nil)
      (pss_cons (ps_set (i := 5) sc_w_best_evidence.nd rfl (Or.inl rfl) (pe_lst pa_nil))
      (pss_cons (ps_for PassesOwn.never rfl (k_pi_list (K := K) rfl (pe_ix (k_ix_tup (K := K) rfl) (pv 2) pe_int (fun _ _ => rfl))) (pg_name (i := 6) sc_w_best_evidence.nd rfl (Or.inl rfl)) (pss_cons (ps_set (i := 7) sc_w_best_evidence.nd rfl (Or.inl rfl) (pe_lst pa_nil))
      (pss_cons (ps_for PassesOwn.never rfl (pi_range1 (by rfl) (T.free _ (F_b_range T.c)) (pa_cons (pe_callB (k_len (K := K) rfl) (by rfl) (T.free _ (F_b_len T.c)) (by decide +kernel) (pa_cons (pv 4) pa_nil)) pa_nil)) (pg_name (i := 8) sc_w_best_evidence.nd rfl (Or.inl rfl)) (pss_one (ps_if (pt_val (pe_cG G_w_within (hr.mono (by decide)) rfl (pa_cons (pe_ix (k_ix_tup (K := K) rfl) (pe_ix (k_ix_list (K := K) rfl) (pv 4) (pv 8) (fun _ _ => rfl)) pe_int (fun _ _ => rfl)) (pa_cons (pe_cG G_w_cover_of (hr.mono (by decide)) rfl (pa_cons (pv 6) pa_nil)) pa_nil)))) (pss_one (ps_expr (k_bm (K := K) rfl PySem.F.plainAttrs_list PySem.F.slot_list_append PySem.F.type_list_append mt_append (pv 7) (pa_cons (pe_tup (pa_cons pe_str (pa_cons (pv 8) pa_nil))) pa_nil)))) pss_nil)))
      (pss_cons (ps_if (pt_cmpR (k_eqD (K := K) rfl hr.units) (pv 7) (pe_lst pa_nil) (nomark _)) (pss_one (ps_ret (pe_cG G_w_evidence hr rfl (pa_cons (pv 0) (pa_cons (pe_m0G G_S_ledger (hr.mono (by decide)) (pv 1)) (pa_cons (pv 4) (pa_cons (pv 3) (pa_cons (pv 2) pa_nil)))))))) pss_nil)
      (pss_one (ps_expr (k_bm (K := K) rfl PySem.F.plainAttrs_list PySem.F.slot_list_append PySem.F.type_list_append mt_append (pv 5) (pa_cons (pe_ix (k_ix_list (K := K) rfl) (pv 7) (pe_cG G_w_draw (hr.mono (by decide)) rfl (pa_cons (pv 0) (pa_cons (pe_callB (k_len (K := K) rfl) (by rfl) (T.free _ (F_b_len T.c)) (by decide +kernel) (pa_cons (pv 7) pa_nil)) pa_nil))) (fun _ _ => rfl)) pa_nil))))))))
      (pss_one (ps_ret (pv 5)))))))), ?_⟩
  rintro vs H Q E ⟨F, ⟨s, a, st, rd, time⟩, j, hv, ⟨dr, pS, tok, qk, ql⟩, kk⟩
  obtain ⟨v1, v2, v3, v4, rfl, h1, h2, h3, h4⟩ := hv.four
  obtain ⟨num, ses, qs, pr⟩ := rd
  obtain ⟨rest, er⟩ := kP_wrd pr
  have h1' : Dv F H v1 (.adr s) := h1
  have h2' : Dv F H v2 (.adr st.ad) := h2
  have h3r : Dv F H v3 (kRd ⟨num, ses, qs, pr⟩) := h3
  have h3q : Dv F H v3 (.tup [.int num, .str ses, kQs qs, kP pr]) := h3
  have h3' : Dv F H v3 (.tup [.int num, .str ses, kQs qs, .tup (.str pr.wrd :: rest)]) := by
    rw [← er]
    exact h3q
  have h4' : Dv F H v4 (.int time) := h4
  have c3 : st.cms.length ≤ 300 := tok.1
  have l3 : st.lss.length ≤ 300 := tok.2.1
  have t0 : 0 ≤ time := tok.2.2.1
  have t1 : time ≤ 1000000 := tok.2.2.2.1
  have ql' : qs.length ≤ 3 := ql
  have qk' : QsOk qs := qk
  have pS' : preS K F H st := pS
  have len2 : (st.lss.map (·.2)).length = st.lss.length := List.length_map _
  cases h1'.adr_inv
  cases h2'.adr_inv
  generalize pr.wrd = wd at *
  apply s_setS j (ev_leases pS' (by omega) (ev_var rfl h2'))
  intro v5 H1 e1 h5
  have g31 := h3'.mono e1
  have word : ∀ {x : Str} {σ : L2.St} {H2 : Hp}, σ[2]? = some (some v3) → Dv F H2 v3 (.tup [.int num, .str ses, kQs qs, .tup (.str wd :: rest)]) → EvT F (tTest (tOp rEq (tOp (rIxT K) (tOp (rIxT K) (tVar 2) (tC (.int 3))) (tC (.int 0))) (tC (.str x)))) σ H2 (decide (wd = x)) := fun hx hv => et_test (ev_op (ev_op (ev_op (d := .tup (.str wd :: rest)) (ev_var hx hv) ev_int (rv_ixT rfl)) ev_int (rv_ixT at0c)) ev_str rv_eqS)
  apply s_ifS e1.j (word rfl g31)
  · intro _ H2 e2
    have p2 := preS.mono (e1.trans e2) pS'
    apply s_ret (d := kSs [.at time (st.cms.length : Nat)]) e2.j
    · refine ev_lst (ea_cons (ev_tup (ea_cons ev_str (ea_cons (ev_var rfl (h4'.mono (e1.trans e2))) (ea_cons (ev_cb (ea_cons (ev_ledger p2 (ev_var rfl (.adr _))) ea_nil) ?_) ea_nil))) (Nat.le_of_ble_eq_true rfl)) ea_nil) (Nat.le_of_ble_eq_true rfl)
      rw [← len_map kCm st.cms]
      exact rc_lenL
    · exact fun v H3 e3 hv => kk v H3 _ ((e1.trans e2).trans e3) ⟨_, rfl, Nat.le_of_ble_eq_true rfl⟩ hv
  intro _ H2 e2
  have e02 := e1.trans e2
  have g32 := g31.mono e2
  apply s_ifS e2.j (word rfl g32)
  · intro _ H3 e3
    apply s_ret (d := kSs []) e3.j
    · exact ev_lst ea_nil (Nat.le_of_ble_eq_true rfl)
    · exact fun v H4 e4 hv => kk v H4 _ ((e02.trans e3).trans e4) ⟨[], rfl, by decide⟩ hv
  intro _ H3 e3
  have e03 := e02.trans e3
  have p3 := preS.mono e03 pS'
  have g33 := g32.mono e3
  have g53 := ((h5.mono e2).mono e3)
  refine s_newS e3.j fun p hp jp => ?_
  have nU : ¬ F.U p := fun u => F.live e3.j u hp
  have nS : ¬ F.S p := fun z => nU (F.sub z)
  have pp : preS K (F.add p) (upd H3 p (.lst [])) st := p3.add hp
  have k3 := g33.add (p := p) (o := .lst []) hp
  have k3q := ((h3q.mono e03).add (p := p) (o := .lst []) hp)
  have k4 := ((h4'.mono e03).add (p := p) (o := .lst []) hp)
  have k5 := g53.add (p := p) (o := .lst []) hp
  apply s_forLSp (ds := qs.map kQ) Le1.pin jp (Pv := fun i σ' H' => ∃ a b c xs ev, σ' = [some (.ref s), some (.ref st.ad), some v3, some v4, some v5, some (.ref p), a, b, c] ∧ H' p = some (.lst xs) ∧ DvA (F.add p) H' xs (ev.map kS) ∧ List.length ev ≤ i)
  · exact ev_op (ev_var rfl k3.pin) ev_int (rv_ixT rfl)
  · exact fun H4 e4 => ⟨none, none, none, [], [], rfl, e4.at_, .nil, Nat.le_refl _⟩
  · rintro i d v σ' H' hi e' ⟨xa, xb, xc, xs, ev, rfl, hx, hda, hl⟩ hv
    rw [List.getElem?_map] at hi
    obtain ⟨q, hq, rfl⟩ := Option.map_eq_some_iff.mp hi
    have iq := (List.getElem?_eq_some_iff.mp hq).1
    have jq := pin_j e'.j hx rfl
    have drq := dr.pin (p := p) (o := .lst xs)
    have pq : preS K (F.pin p (.lst xs)) H' st := preS.pin (preS.mono e' pp)
    have m3 := (k3q.mono e').pin (o := .lst xs)
    have m4 := (k4.mono e').pin (o := .lst xs)
    have m5 := (k5.mono e').pin (o := .lst xs)
    have mq := hv.pin (o := .lst xs)
    refine s_newS (F := F.pin p (.lst xs)) jq fun p2 hp2 jp2 => ?_
    have n2U : ¬ (F.pin p (.lst xs)).U p2 := fun u => (F.pin p (.lst xs)).live jq u hp2
    have n2S : ¬ (F.pin p (.lst xs)).S p2 := fun z => n2U ((F.pin p (.lst xs)).sub z)
    have r5 := m5.add (p := p2) (o := .lst []) hp2
    have rq := mq.add (p := p2) (o := .lst []) hp2
    apply s_forRSp (F := (F.pin p (.lst xs)).add p2) (n := (st.lss.length : Nat)) Le1.pin jp2 (Pv := fun i2 σ2 H2' => ∃ c ys fs, σ2 = [some (.ref s), some (.ref st.ad), some v3, some v4, some v5, some (.ref p), some v, some (.ref p2), c] ∧ H2' p2 = some (.lst ys) ∧ DvA ((F.pin p (.lst xs)).add p2) H2' ys (fs.map kS) ∧ List.length fs ≤ i2)
    · refine ev_cb (d := .int (st.lss.length : Nat)) (ea_cons (ev_var rfl r5.pin) ea_nil) ?_
      rw [← len2, ← len_map kLs (st.lss.map (·.2))]
      exact rc_lenL
    · omega
    · omega
    · exact fun H4 e4 => ⟨xc, [], [], rfl, e4.at_, .nil, Nat.le_refl _⟩
    · rintro i2 σ2 H4 hi2 e4 ⟨c, ys, fs, rfl, hy, hdy, hfl⟩
      have j4 := pin_j e4.j hy rfl
      have i2l : i2 < st.lss.length := by omega
      have r54 := (r5.mono e4).pin (o := .lst ys)
      have rq4 := (rq.mono e4).pin (o := .lst ys)
      obtain ⟨l, hl2⟩ : ∃ l, (st.lss.map (·.2))[i2]? = some l := ⟨(st.lss.map (·.2))[i2]'(by omega), List.getElem?_eq_getElem (by omega)⟩
      have hat : atI ((st.lss.map (·.2)).map kLs) (i2 : Int) = some (kLs l) := atI_nat (by rw [List.getElem?_map, hl2]; rfl)
      apply s_ifN (F := (F.pin p (.lst xs)).pin p2 (.lst ys)) (b := within l.cov q.cov) j4
      · apply et_B
        apply ev_w_within
        · apply ea_cons
          · exact ev_op (ev_op (ev_var rfl r54) (ev_var rfl (.int _)) (rv_ixL hat)) ev_int (rv_ixT rfl)
          · apply ea_cons
            · exact ev_w_cover_of (ea_cons (ev_var rfl rq4) ea_nil)
            · exact ea_nil
      · intro _ H5 e5
        apply s_app e5.j (d := kS (.lease (i2 : Int))) rfl
        · exact ev_tup (ea_cons ev_str (ea_cons (ev_var rfl (.int _)) ea_nil)) (Nat.le_of_ble_eq_true rfl)
        · rw [hdy.len, List.length_map]
          omega
        · intro v9 H6 e6 h9
          have tk := tupF (u := .lst (ys ++ [v9])) e6.at_ rfl
          refine ⟨(e5.trans e6).put rfl, _, _, fs ++ [.lease (i2 : Int)], rfl, upd_same, ?_, by rw [List.length_append]; show List.length fs + 1 ≤ i2 + 1; omega⟩
          rw [List.map_append]
          exact ((hdy.mono (e5.trans e6).unpin).cast tk (immA_map imm_kS _)).snoc (h9.cast tk rfl)
      · intro _ H5 e5
        exact ⟨e5.unpin, _, ys, fs, rfl, e5.at_, hdy.mono e5.unpin, by omega⟩
    · rintro σ2 H4 e4 ⟨c, ys, fs, rfl, hy, hdy, hfl⟩
      have e4p : Ext (F.pin p (.lst xs)) H' H4 := Ext.drop' hp2 e4
      have n4 : ((st.lss.length : Nat) : Int).toNat = st.lss.length := by omega
      rw [n4] at hfl
      have dfit : Dv (F.pin p (.lst xs)) H4 (.ref p2) (.lst (fs.map kS)) := .lst n2S hy hdy.sub
      have ffit : (D.lst (fs.map kS)).fit false 2 = true := by
        rw [D.fit]
        refine fitA_all.mpr fun d hd => ?_
        obtain ⟨x, _, rfl⟩ := List.mem_map.mp hd
        exact fit_kS x
      have p4 : preS K (F.pin p (.lst xs)) H4 st := preS.mono e4p pq
      apply s_ifS (F := F.pin p (.lst xs)) (b := (D.lst (fs.map kS)).eqb (.lst [])) e4p.j
      · apply et_test
        exact ev_op (ev_var rfl dfit) (ev_lst ea_nil (Nat.le_of_ble_eq_true rfl)) (rv_eqD 2 ffit rfl (by decide))
      · intro _ H5 e5
        have p5 := preS.mono e5 p4
        apply s_retC (F := F.pin p (.lst xs)) e5.j
        · apply ec_evidence drq (l := st.cms) (ls := st.lss.map (·.2)) (time := time) (rd := ⟨num, ses, qs, pr⟩)
          · apply ea_cons
            · exact ev_var rfl (.adr _)
            · apply ea_cons
              · exact ev_ledger p5 (ev_var rfl (.adr _))
              · apply ea_cons
                · exact ev_var rfl ((m5.mono e4p).mono e5)
                · apply ea_cons
                  · exact ev_var rfl ((m4.mono e4p).mono e5)
                  · apply ea_cons
                    · exact ev_var rfl ((m3.mono e4p).mono e5)
                    · exact ea_nil
          · exact ⟨⟨by show st.cms.length ≤ 1000; omega, by show (st.lss.map (·.2)).length ≤ 1000; omega, t0, t1⟩, qk', ql'⟩
        · intro v9 H6 d9 e6 hd hv9
          have eF : Ext F H3 H6 := Ext.drop' hp (e'.trans ((e4p.trans e5).trans e6).unpin)
          exact kk v9 H6 d9 (e03.trans eF) hd hv9.unpin.sub
      · intro hb H5 e5
        have fpos : 0 < fs.length := by
          cases fs with
          | nil =>
            have z : (D.lst []).eqb (.lst []) = true := rfl
            rw [show (([] : List Sm).map kS) = [] from rfl, z] at hb
            cases hb
          | cons x r => exact Nat.succ_pos _
        have dfit5 := dfit.mono e5
        have e45 := e4p.trans e5
        apply s_appC (C := isSm) e5.j rfl
        · refine ec_pick (n := (fs.length : Nat)) (ec_lit (ev_var rfl dfit5) (by rw [List.length_map]) ?_) (ec_draw drq (ea_cons (ev_var rfl (.adr _)) (ea_cons (ev_cb (ea_cons (ev_var rfl dfit5) ea_nil) ?_) ea_nil)) (by omega) (by omega))
          · intro x hx
            obtain ⟨y, _, rfl⟩ := List.mem_map.mp hx
            exact ⟨y, rfl⟩
          · rw [← len_map kS fs]
            exact rc_lenL
        · rw [hda.len, List.length_map]
          omega
        · rintro v9 H6 d9 e6 ⟨sm, rfl⟩ h9
          have tk := tupF (u := .lst (xs ++ [v9])) e6.at_ rfl
          have e46 := e45.trans e6
          refine ⟨e46.put rfl, _, _, _, _, ev ++ [sm], rfl, upd_same, ?_, by rw [List.length_append]; show List.length ev + 1 ≤ i + 1; omega⟩
          rw [List.map_append]
          exact ((hda.mono e46.unpin).cast tk (immA_map imm_kS _)).snoc (h9.cast tk (imm_kS _))
  · rintro σ' H' e' ⟨xa, xb, xc, xs, ev, rfl, hx, hda, hl⟩
    rw [List.length_map] at hl
    have eF : Ext F H3 H' := Ext.drop' hp e'
    exact ⟨_, rfl, kk _ H' _ (e03.trans eF) ⟨ev, rfl, by omega⟩ (.lst nS hx hda.sub)⟩
end
end Le

namespace Le
open PySem PySem.Spec PyProof.Rows L2
local macro_rules | `(tactic| wtm_at "ev1") => `(tactic| first
  | with_reducible exact ev_int | with_reducible exact ev_str | with_reducible exact ev_bl | with_reducible exact ev_non
  | with_reducible apply ev_var | with_reducible apply ev_op | with_reducible apply ev_chain
  | with_reducible apply ev_and | with_reducible apply ev_or | with_reducible apply ev_not
  | with_reducible apply et_and | with_reducible apply et_or | with_reducible apply et_not | with_reducible apply et_test | with_reducible apply et_B | with_reducible apply et_tru
  | with_reducible apply ev_if
  | with_reducible apply ev_tup | with_reducible apply ev_lst | with_reducible apply ea_cons | with_reducible exact ea_nil | with_reducible apply ev_cb
  | with_reducible exact rv_add | with_reducible exact rv_sub | with_reducible exact rv_lt | with_reducible exact rv_le | with_reducible exact rv_gt | with_reducible exact rv_ge
  | with_reducible exact rv_S | with_reducible exact rv_eqS | with_reducible exact rv_neS | with_reducible exact rv_eqI | with_reducible exact rv_neI | with_reducible exact rv_isN | with_reducible exact rv_notN | with_reducible exact rv_isB
  | with_reducible apply rv_ixT | with_reducible apply rv_ixL
  | with_reducible exact rc_lenL | with_reducible exact rc_lenT | with_reducible exact rc_list | with_reducible exact rc_tuple | with_reducible exact rc_intI | with_reducible exact rc_intB | with_reducible exact rc_min | with_reducible exact rc_max
  | wtm_at "evc"
  | (with_reducible apply dv_id; assumption) | (with_reducible apply dv_mono; assumption) | with_reducible apply dv_pin
  | (with_reducible intro _) | (with_reducible apply at_id; assumption) | exact rfl | (with_reducible apply le_id; exact Nat.le_of_ble_eq_true rfl))
local macro_rules | `(tactic| wtm_at "ev") => `(tactic| repeat' (wtm_at "ev1"))
local macro_rules | `(tactic| wtm_at "jj") => `(tactic| first | assumption | exact Ext.j (by assumption))
local macro_rules | `(tactic| wtm_at "evc") => `(tactic| first | with_reducible apply ev_contains | with_reducible apply ev_includes | with_reducible apply ev_touches | with_reducible apply ev_cover_of | with_reducible apply ev_w_cover_of | with_reducible apply ev_w_within | with_reducible apply ev_w_touches | with_reducible apply ev_least_record | with_reducible apply ev_selected | with_reducible apply ev_w_rows | with_reducible apply ev_ask | with_reducible apply ev_w_ask | with_reducible apply ev_apply | with_reducible apply ev_at | with_reducible apply ev_w_at | with_reducible apply ev_results | with_reducible apply ev_w_results | with_reducible apply ev_is_answer_at | with_reducible apply ev_is_true_at | with_reducible apply ev_is_true | with_reducible apply ev_w_is_true | with_reducible apply ev_supports_newest | with_reducible apply ev_supports | with_reducible apply ev_w_supports | with_reducible apply ev_accepts | with_reducible apply ev_w_accepts | with_reducible apply ev_w_is_right | with_reducible apply ev_w_reach | with_reducible apply ev_w_mix | with_reducible apply ev_w_number | with_reducible apply ev_w_is_integer | with_reducible apply ev_w_tells)
section
variable {F : Fr} {K : PySem.W.Frag} {σ : L2.St} {H : Hp} {te tl : TE} {t : TA} {C : D → Prop} {CA : List D → Prop} {D' : Ends} {u tb : TS} {g : TG} {i : Nat} {sp : Sp} {c : Addr}
theorem s_makeCS (jj : F.J H) (h : EvAC F t σ H CA) (k : ∀ vs H2 ds, Ext F H H2 → CA ds → DvA F H2 vs ds → ∀ x dx, H2 x = none → H2 dx = none → dx ≠ x → sp (.ref x :: vs) (upd (upd H2 dx (.own x)) x (.ins c dx [])) (fun v H3 => v = .non ∧ u D' (σ.set i (some (.ref x))) H3) E0) :
    tSeq (tAsg (tMake c sp [] E0 t) (gName i)) u D' σ H := h.use jj fun vs H2 ds e2 ca hv x dx h1 h2 h3 => by
  have z := k vs H2 ds e2 ca hv x dx h1 h2 h3
  rw [List.append_nil]
  exact z
/-- over a range, what the body changes left open -/
theorem s_forRXS (jj : F.J H) (h : EvC F te σ H C) (hn : ∀ d, C d → ∃ n : Int, d = .int n ∧ -1000000 ≤ n ∧ n ≤ 1000000) (Pv : Int → Nat → L2.St → Hp → Prop) (h0 : ∀ n H2, C (.int n) → Ext F H H2 → Pv n 0 σ H2)
    (hs : ∀ n (i : Nat) σ' H', C (.int n) → i < n.toNat → Pv n i σ' H' → g (.int (i : Int)) σ' H' fun σ2 H2 => tb ⟨fun σ3 H3 => Pv n (i + 1) σ3 H3, D'.rt, u D', fun σ3 H3 => Pv n (i + 1) σ3 H3⟩ σ2 H2)
    (hd : ∀ n σ' H', C (.int n) → Pv n n.toNat σ' H' → u D' σ' H') : tSeq (tFor (iRng1 (tCons te tNil)) g tb) u D' σ H := h.use jj fun v H2 d e2 hc hv => by
  obtain ⟨n, rfl, hn0, hn⟩ := hn d hc
  cases hv.int_inv
  refine ⟨n, rfl, by omega, by omega, fun i m σ' H' => m = n.toNat - i ∧ i ≤ n.toNat ∧ Pv n i σ' H', ⟨n.toNat, rfl, Nat.zero_le _, h0 n H2 hc e2⟩, ?_⟩
  rintro i m σ' H' ⟨rfl, hi, p⟩
  by_cases hlt : i < n.toNat
  · refine .inr ⟨hlt, fun σ3 H3 => Pv n (i + 1) σ3 H3, fun σ3 H3 p' => ⟨n.toNat - (i + 1), by omega, rfl, hlt, p'⟩, fun x H3 y => ?_⟩
    obtain ⟨rfl, rfl⟩ := y
    rw [Int.zero_add]
    exact hs n i σ' _ hc hlt p
  · have ei : i = n.toNat := by omega
    subst ei
    exact .inl ⟨Nat.le_refl _, hd n σ' H' hc p⟩
/-- over a list that is some answer, the last of a body -/
theorem s_forCN (jj : F.J H) (h : EvC F tl σ H C) (hC : ∀ d, C d → ∃ ds, d = .lst ds) (k : ∀ ds v H2, Ext F H H2 → C (.lst ds) → Dv F H2 v (.lst ds) → tFor (iList K (tC v)) g tb D' σ H2) : tFor (iList K tl) g tb D' σ H := h.use jj fun v H2 d e2 c hv => by
  obtain ⟨ds, rfl⟩ := hC d c
  exact k ds v H2 e2 c hv
end
/-- the newest answer, told at once, is accepted -/
theorem acc_newest {st : Sto} {now num : Int} (h : SInv st now num) (qs : List Qu) : acc st.cms (st.lss.map (·.2)) now 0 ⟨9, "s", qs, .age 0⟩ ⟨resF st.cms qs st.cms.length, (st.cms.length : Nat), [.at now (st.cms.length : Nat)]⟩ = true := by
  have a1 : isAns st.cms 0 qs ⟨resF st.cms qs st.cms.length, (st.cms.length : Nat), [.at now (st.cms.length : Nat)]⟩ = true := by
    unfold isAns
    show ((decide (0 ≤ ((st.cms.length : Nat) : Int)) && decide (((st.cms.length : Nat) : Int) ≤ (st.cms.length : Nat))) && eqbA (resF st.cms qs st.cms.length) (resF st.cms qs ((st.cms.length : Nat) : Int).toNat)) = true
    rw [Int.toNat_natCast, eqbA_refl 2 _ (fit_resF (b := false) _ _ _), decide_eq_true (by omega), decide_eq_true (Int.le_refl _)]
    rfl
  have a2 : trueAt st.cms now now (st.cms.length : Nat) = true := by
    unfold trueAt
    have b1 : decide (now < now) = false := decide_eq_false (by omega)
    have b2 : decide (0 ≤ ((st.cms.length : Nat) : Int)) = true := decide_eq_true (by omega)
    have b3 : decide (((st.cms.length : Nat) : Int) ≤ (st.cms.length : Nat)) = true := decide_eq_true (Int.le_refl _)
    have b4 : (decide (0 < ((st.cms.length : Nat) : Int)) && decide (now < tmL st.cms (((st.cms.length : Nat) : Int) - 1))) = false := by
      by_cases q : 0 < ((st.cms.length : Nat) : Int)
      · obtain ⟨c, _, ht, hc⟩ := at_cm (l := st.cms) (i := ((st.cms.length : Nat) : Int) - 1) (by omega) (by omega)
        have z := h.tn c (List.mem_of_getElem? hc)
        rw [ht, decide_eq_false (by omega : ¬ now < c.1), Bool.and_false]
      · rw [decide_eq_false q]
        rfl
    have b5 : decide (((st.cms.length : Nat) : Int) = (st.cms.length : Nat)) = true := decide_eq_true rfl
    rw [b1, b2, b3, b4, b5]
    rfl
  unfold acc
  show (isAns st.cms 0 qs _ && (trueAt st.cms now now (st.cms.length : Nat) && true) && (decide (((st.cms.length : Nat) : Int) ≤ (st.cms.length : Nat)) && decide (now - 0 ≤ now))) = true
  rw [a1, a2, decide_eq_true (Int.le_refl _), decide_eq_true (by omega : now - 0 ≤ now)]
  rfl
def sp_law (K : PySem.W.Frag) : Sp := fun vs H Q _ => ∃ (a : Addr) (ns : List Int), vs = [.ref a] ∧ SqL K H a (ns.map V.int) ∧ ns.length ≤ 63 ∧ ∀ H', Q (.bl true) H'
end Le

namespace Le
open PySem PySem.Spec PyProof.Rows L2
local macro_rules | `(tactic| wtm_at "ev1") => `(tactic| first
  | with_reducible exact ev_int | with_reducible exact ev_str | with_reducible exact ev_bl | with_reducible exact ev_non
  | with_reducible apply ev_var | with_reducible apply ev_op | with_reducible apply ev_chain
  | with_reducible apply ev_and | with_reducible apply ev_or | with_reducible apply ev_not
  | with_reducible apply et_and | with_reducible apply et_or | with_reducible apply et_not | with_reducible apply et_test | with_reducible apply et_B | with_reducible apply et_tru
  | with_reducible apply ev_if
  | with_reducible apply ev_tup | with_reducible apply ev_lst | with_reducible apply ea_cons | with_reducible exact ea_nil | with_reducible apply ev_cb
  | with_reducible exact rv_add | with_reducible exact rv_sub | with_reducible exact rv_lt | with_reducible exact rv_le | with_reducible exact rv_gt | with_reducible exact rv_ge
  | with_reducible exact rv_S | with_reducible exact rv_eqS | with_reducible exact rv_neS | with_reducible exact rv_eqI | with_reducible exact rv_neI | with_reducible exact rv_isN | with_reducible exact rv_notN | with_reducible exact rv_isB
  | with_reducible apply rv_ixT | with_reducible apply rv_ixL
  | with_reducible exact rc_lenL | with_reducible exact rc_lenT | with_reducible exact rc_list | with_reducible exact rc_tuple | with_reducible exact rc_intI | with_reducible exact rc_intB | with_reducible exact rc_min | with_reducible exact rc_max
  | wtm_at "evc"
  | (with_reducible apply dv_id; assumption) | (with_reducible apply dv_mono; assumption) | with_reducible apply dv_pin
  | (with_reducible intro _) | (with_reducible apply at_id; assumption) | exact rfl | (with_reducible apply le_id; exact Nat.le_of_ble_eq_true rfl))
local macro_rules | `(tactic| wtm_at "ev") => `(tactic| repeat' (wtm_at "ev1"))
local macro_rules | `(tactic| wtm_at "jj") => `(tactic| first | assumption | exact Ext.j (by assumption))
local macro_rules | `(tactic| wtm_at "evc") => `(tactic| first | with_reducible apply ev_contains | with_reducible apply ev_includes | with_reducible apply ev_touches | with_reducible apply ev_cover_of | with_reducible apply ev_w_cover_of | with_reducible apply ev_w_within | with_reducible apply ev_w_touches | with_reducible apply ev_least_record | with_reducible apply ev_selected | with_reducible apply ev_w_rows | with_reducible apply ev_ask | with_reducible apply ev_w_ask | with_reducible apply ev_apply | with_reducible apply ev_at | with_reducible apply ev_w_at | with_reducible apply ev_results | with_reducible apply ev_w_results | with_reducible apply ev_is_answer_at | with_reducible apply ev_is_true_at | with_reducible apply ev_is_true | with_reducible apply ev_w_is_true | with_reducible apply ev_supports_newest | with_reducible apply ev_supports | with_reducible apply ev_w_supports | with_reducible apply ev_accepts | with_reducible apply ev_w_accepts | with_reducible apply ev_w_is_right | with_reducible apply ev_w_reach | with_reducible apply ev_w_mix | with_reducible apply ev_w_number | with_reducible apply ev_w_is_integer | with_reducible apply ev_w_tells)
theorem s_rawS {σ : L2.St} {H : Hp} {te : TE} {i : Nat} {u : TS} {D' : Ends} (h : te σ H fun v H1 => u D' (σ.set i (some v)) H1) : tSeq (tAsg te (gName i)) u D' σ H := h
section
variable {P : Program} {w : World} {K : PySem.W.Frag} {mg : Str → Option Value} {base : Heap}
theorem sc_law : FnScope ["_law_script", "_law_state_here", "_law_store", "_law_time", "_law_numbers", "_law_k", "_law_before", "_law_ledger", "_law_read_here", "_law_answer_here", "_law_floor", "_law_aged", "_law_newest"] ["_law_script"] d_law.scope := ⟨rfl, rfl, rfl, by decide +kernel, rfl, by decide +kernel, by decide +kernel⟩
theorem g_law (T : Tx K mg) (G_w_state : Good P w K mg base 1 "_law_state" ["_law_script"] (sp_w_state K)) (G_S_init : GoodI P w K mg base 1 (aStore K) "Store" ["self", "host_count", "lease_length"] (sp_S_init K)) (G_w_draw : Good P w K mg base 3 "_law_draw" ["_law_state_here", "_law_many"] sp_w_draw) (G_w_store_step : Good P w K mg base 7 "_law_store_step" ["_law_state_here", "_law_store", "_law_time", "_law_numbers"] (sp_w_store_step K)) (G_S_ledger : GoodM P w K mg base 1 (aStore K) "ledger" ["self"] (sp_S_ledger K)) (G_S_settle : GoodM P w K mg base 4 (aStore K) "settle" ["self", "time"] (sp_S_settle K)) (G_S_handle : GoodM P w K mg base 6 (aStore K) "handle" ["self", "letter", "time"] (sp_S_handle K)) (G_w_group : Good P w K mg base 5 "_law_group" ["_law_state_here"] sp_w_group) (G_S_pending : GoodM P w K mg base 1 (aStore K) "pending" ["self"] (sp_S_pending K)) (G_w_read : Good P w K mg base 7 "_law_read" ["_law_state_here", "_law_number_here"] sp_w_read) (G_w_answer : Good P w K mg base 7 "_law_answer" ["_law_state_here", "_law_store", "_law_read_here", "_law_time"] (sp_w_answer K)) (G_w_told : Good P w K mg base 7 "_law_told" ["_law_store", "_law_time", "_law_floor", "_law_read_here", "_law_answer_here"] (sp_w_told K)) (G_w_results : Good P w K mg base 3 "_law_results" ["_law_ledger", "_law_questions", "_law_moment"] sp_w_results) (G_accepts : Good P w K mg base 6 "accepts" ["ledger", "leases", "time", "floor", "read", "answer"] sp_accepts) (G_S_leases : GoodM P w K mg base 2 (aStore K) "leases" ["self"] (sp_S_leases K)) {fd : FuncData} (Fd : FunD K d_law.name d_law.qual d_law.params d_law.body d_law.scope [] [] (He.fAd K d_law.at_) fd) : FnOk P w K mg base CX0 8 (He.fAd K d_law.at_) fd ["_law_script"] (sp_law K) := by
  refine fn_def Fd sc_law (fun vs H Q E ⟨_, _, h, _⟩ => by rw [h]; rfl) ⟨_, fun f cdv A outer s H E hr =>
    (pss_cons (ps_set (i := 1) sc_law.nd rfl (Or.inl rfl) (pe_cG G_w_state (hr.mono (by decide)) rfl (pa_cons (pv 0) pa_nil)))
      (pss_cons (ps_set (i := 2) sc_law.nd rfl (Or.inl rfl) (pe_mkG G_S_init (hr.mono (by decide)) rfl (pa_cons pe_int (pa_cons (pe_op op_add pe_int (pe_cG G_w_draw (hr.mono (by decide)) rfl (pa_cons (pv 1) (pa_cons pe_int pa_nil)))) pa_nil))))
      (pss_cons (ps_set (i := 3) sc_law.nd rfl (Or.inl rfl) pe_int)
      (pss_cons (ps_set (i := 4) sc_law.nd rfl (Or.inl rfl) (pe_lst (pa_cons pe_int pa_nil)))
      (pss_cons (ps_for PassesOwn.never rfl (pi_range1 (by rfl) (T.free _ (F_b_range T.c)) (pa_cons (pe_op op_add pe_int (pe_cG G_w_draw (hr.mono (by decide)) rfl (pa_cons (pv 1) (pa_cons pe_int pa_nil)))) pa_nil)) (pg_name (i := 5) sc_law.nd rfl (Or.inl rfl)) (pss_one (ps_set (i := 3) sc_law.nd rfl (Or.inl rfl) (pe_cG G_w_store_step hr rfl (pa_cons (pv 1) (pa_cons (pv 2) (pa_cons (pv 3) (pa_cons (pv 4) pa_nil))))))))
      (pss_cons (ps_set (i := 3) sc_law.nd rfl (Or.inl rfl) (pe_op op_add (pv 3) pe_int))
      (pss_cons (ps_set (i := 6) sc_law.nd rfl (Or.inl rfl) (pe_callB (k_len (K := K) rfl) (by rfl) (T.free _ (F_b_len T.c)) (by decide +kernel) (pa_cons (pe_m0G G_S_ledger (hr.mono (by decide)) (pv 2)) pa_nil)))
      (pss_cons (ps_expr (pe_mG G_S_settle (hr.mono (by decide)) (pv 2) (pa_cons (pv 3) pa_nil)))
      (pss_cons (ps_set (i := 6) sc_law.nd rfl (Or.inl rfl) (pe_callB (call_max' rfl) (by rfl) (T.free _ (F_b_max T.c)) (by decide +kernel) (pa_cons (pv 6) (pa_cons (pe_callB (k_len (K := K) rfl) (by rfl) (T.free _ (F_b_len T.c)) (by decide +kernel) (pa_cons (pe_m0G G_S_ledger (hr.mono (by decide)) (pv 2)) pa_nil)) pa_nil))))
      (pss_cons (ps_expr (pe_mG G_S_handle (hr.mono (by decide)) (pv 2) (pa_cons (pe_tup (pa_cons pe_str (pa_cons pe_int (pa_cons pe_int (pa_cons (pe_ix (k_ix_list (K := K) rfl) (pv 4) pe_int (fun _ _ => rfl)) (pa_cons (pe_cG G_w_group (hr.mono (by decide)) rfl (pa_cons (pv 1) pa_nil)) pa_nil)))))) (pa_cons (pv 3) pa_nil))))
      (pss_cons (ps_set (i := 7) sc_law.nd rfl (Or.inl rfl) (pe_m0G G_S_ledger (hr.mono (by decide)) (pv 2)))
      (pss_cons (ps_if (PW.pt (pw_or (pt_cmpR op_ne (pe_callB (k_len (K := K) rfl) (by rfl) (T.free _ (F_b_len T.c)) (by decide +kernel) (pa_cons (pv 7) pa_nil)) (pe_op op_add (pv 6) pe_int) (nomark _)) (pw_or1 (pt_cmpR (k_neD (K := K) rfl hr.units) (pe_m0G G_S_pending (hr.mono (by decide)) (pv 2)) (pe_lst pa_nil) (nomark _))))) (pss_one (ps_ret pe_bl)) pss_nil)
      (pss_cons (ps_asg (pe_op op_add (pe_ix (k_ix_list (K := K) rfl) (pv 4) pe_int (fun _ _ => rfl)) pe_int) (pg_sub (pv 4) pe_int set_list))
      (pss_cons (ps_for PassesOwn.never rfl (pi_range1 (by rfl) (T.free _ (F_b_range T.c)) (pa_cons (pe_cG G_w_draw (hr.mono (by decide)) rfl (pa_cons (pv 1) (pa_cons pe_int pa_nil))) pa_nil)) (pg_name (i := 5) sc_law.nd rfl (Or.inl rfl)) (pss_one (ps_set (i := 3) sc_law.nd rfl (Or.inl rfl) (pe_cG G_w_store_step hr rfl (pa_cons (pv 1) (pa_cons (pv 2) (pa_cons (pv 3) (pa_cons (pv 4) pa_nil))))))))
      (pss_cons (ps_for PassesOwn.never rfl (pi_range1 (by rfl) (T.free _ (F_b_range T.c)) (pa_cons pe_int pa_nil)) (pg_name (i := 5) sc_law.nd rfl (Or.inl rfl)) (pss_cons (ps_set (i := 8) sc_law.nd rfl (Or.inl rfl) (pe_cG G_w_read hr rfl (pa_cons (pv 1) (pa_cons (pv 5) pa_nil))))
      (pss_cons (ps_set (i := 9) sc_law.nd rfl (Or.inl rfl) (pe_cG G_w_answer hr rfl (pa_cons (pv 1) (pa_cons (pv 2) (pa_cons (pv 8) (pa_cons (pv 3) pa_nil))))))
      (pss_one (ps_for PassesOwn.never rfl (k_pi_list (K := K) rfl (pe_lst (pa_cons pe_int (pa_cons (pe_cG G_w_draw (hr.mono (by decide)) rfl (pa_cons (pv 1) (pa_cons (pe_op op_add (pe_callB (k_len (K := K) rfl) (by rfl) (T.free _ (F_b_len T.c)) (by decide +kernel) (pa_cons (pe_m0G G_S_ledger (hr.mono (by decide)) (pv 2)) pa_nil)) pe_int) pa_nil))) pa_nil)))) (pg_name (i := 10) sc_law.nd rfl (Or.inl rfl)) (pss_one (ps_if (pt_not (pt_val (pe_cG G_w_told hr rfl (pa_cons (pv 2) (pa_cons (pv 3) (pa_cons (pv 10) (pa_cons (pv 8) (pa_cons (pv 9) pa_nil)))))))) (pss_one (ps_ret pe_bl)) pss_nil)))))))
      (pss_cons (ps_set (i := 7) sc_law.nd rfl (Or.inl rfl) (pe_m0G G_S_ledger (hr.mono (by decide)) (pv 2)))
      (pss_cons (ps_set (i := 11) sc_law.nd rfl (Or.inl rfl) (pe_tup (pa_cons pe_int (pa_cons pe_str (pa_cons (pe_ix (k_ix_tup (K := K) rfl) (pv 8) pe_int (fun _ _ => rfl)) (pa_cons (pe_tup (pa_cons pe_str (pa_cons pe_int pa_nil))) pa_nil))))))
      (pss_cons (ps_set (i := 12) sc_law.nd rfl (Or.inl rfl) (pe_tup (pa_cons (pe_cG G_w_results (hr.mono (by decide)) rfl (pa_cons (pv 7) (pa_cons (pe_ix (k_ix_tup (K := K) rfl) (pv 8) pe_int (fun _ _ => rfl)) (pa_cons (pe_callB (k_len (K := K) rfl) (by rfl) (T.free _ (F_b_len T.c)) (by decide +kernel) (pa_cons (pv 7) pa_nil)) pa_nil)))) (pa_cons (pe_callB (k_len (K := K) rfl) (by rfl) (T.free _ (F_b_len T.c)) (by decide +kernel) (pa_cons (pv 7) pa_nil)) (pa_cons (pe_lst (pa_cons (pe_tup (pa_cons pe_str (pa_cons (pv 3) (pa_cons (pe_callB (k_len (K := K) rfl) (by rfl) (T.free _ (F_b_len T.c)) (by decide +kernel) (pa_cons (pv 7) pa_nil)) pa_nil)))) pa_nil)) pa_nil)))))
      (pss_one (ps_ret (pe_cmpR op_isBl (pe_cG G_accepts (hr.mono (by decide)) rfl (pa_cons (pv 7) (pa_cons (pe_m0G G_S_leases (hr.mono (by decide)) (pv 2)) (pa_cons (pv 3) (pa_cons pe_int (pa_cons (pv 11) (pa_cons (pv 12) pa_nil))))))) pe_bl (nomark _)))))))))))))))))))))), ?_⟩
  rintro vs H Q E ⟨a0, ns, rfl, hS, hl, kk⟩
  apply s_rawS
  refine ⟨_, rfl, a0, ns, rfl, hS, hl, fun s a H1 s01 st1 => ?_⟩
  show tSeq _ _ _ _ _
  have j1 : (FD s a).J H1 := st1
  have dr1 := drw_FD s a
  apply s_makeCS (F := FD s a) (CA := fun ds => ∃ n : Int, ds = [.int 2, .int n] ∧ 1 ≤ n ∧ n ≤ 12) j1
  · refine EvAC.imp (eac_cons (Ev.toC1 ev_int) (eac_cons (ec_add (C := fun d => ∃ n : Int, d = .int n ∧ 1 ≤ n ∧ n ≤ 12) (Ev.toC1 ev_int) (ec_draw dr1 (n := 12) (ea_cons (ev_var rfl (.adr _)) (ea_cons ev_int ea_nil)) (by decide) (by decide)) eq_int below_int fun i k c1 c2 => ?_) eac_nil)) ?_
    · injection c1 with c1
      obtain ⟨r, e, r0, r1⟩ := c2
      injection e with e
      exact ⟨i + k, rfl, by omega, by omega⟩
    · rintro ds ⟨d, r, rfl, rfl, d2, r2, rfl, ⟨n, rfl, n0, n1⟩, rfl⟩
      exact ⟨n, rfl, n0, n1⟩
  rintro vs2 H2 ds e2 ⟨len, rfl, len0, len1⟩ hv2 x dx hx hdx hne
  obtain ⟨x1, x2, rfl, hx1, hx2⟩ := hv2.two
  cases hx1.int_inv
  cases hx2.int_inv
  have st2 : StAt H2 s a := e2.j
  refine ⟨x, dx, len, rfl, upd_same, fun H3 st ead elen ecm els ewt ewk sa3 kp fr => ⟨rfl, ?_⟩⟩
  -- the state's cells are not the store's
  have same23 : ∀ b o, H2 b = some o → H3 b = some o := fun b o h => by
    have nb := ne_of_none h hx
    have nd := ne_of_none h hdx
    exact kp b o nb (by rw [upd_ne nb, upd_ne nd]; exact h)
  have nown : ∀ b o, H2 b = some o → ¬ own st b := fun b o h z => by
    have nb := ne_of_none h hx
    have nd := ne_of_none h hdx
    rcases fr b z with y | y
    · exact nb y
    · rw [upd_ne nb, upd_ne nd, h] at y
      cases y
  have st3 : StAt H3 s a := by
    obtain ⟨⟨v, p, q, hp, hs⟩, ms, ha, hml⟩ := st2
    exact ⟨⟨v, p, q, hp, same23 _ _ hs⟩, ms, same23 _ _ ha, hml⟩
  have os : ¬ own st s := by
    obtain ⟨⟨v, p, q, hp, hs⟩, ms, ha, hml⟩ := st2
    exact nown _ _ hs
  have oa : ¬ own st a := by
    obtain ⟨⟨v, p, q, hp, hs⟩, ms, ha, hml⟩ := st2
    exact nown _ _ ha
  rw [← ead]
  have inv0 : SInv st 0 0 := by
    constructor
    · rw [ecm, ewt]
      decide
    · rw [ewk]
      exact Nat.zero_le _
    · rw [els]
      decide
    · exact Int.le_refl _
    · rw [elen]
      exact ⟨len0, len1⟩
    · rw [ecm]
      exact List.Pairwise.nil
    · rw [ecm]
      intro c hc
      cases hc
    · rw [ecm]
      intro c hc
      cases hc
    · rw [ewt]
      intro c hc
      cases hc
    · rw [els]
      intro c hc
      cases hc
    · rw [els]
      intro c hc
      cases hc
    · rw [els]
      intro c hc
      cases hc
    · rw [els]
      intro c hc
      cases hc
    · rw [els]
      intro c hc
      cases hc
    · rw [ewk]
      intro c hc
      cases hc
    · rw [ewt]
      intro c hc
      cases hc
  apply s_setS (F := F0) (d := .int 0) trivial ev_int
  intro v3 H4 e4 h4
  cases h4.int_inv
  apply s_setNS (F := F0) (ds := [.int 0]) trivial
  · exact en_lst (ea_cons ev_int ea_nil) (Nat.le_of_ble_eq_true rfl)
  intro nm H5 xs5 hnm e5 hx5 hd5
  obtain ⟨y5, rfl, hy5⟩ := hd5.one
  cases hy5.int_inv
  have sa5 := (sa3.mono e4 Sro.F0).mono e5 Sro.F0
  have j5 : (FL s a nm st 0).J H5 := by
    obtain ⟨⟨v, p, q, hp, hs⟩, ms, ha, hml⟩ := st3
    have hs4 := e4.of0 _ _ hs
    have ha4 := e4.of0 _ _ ha
    refine ⟨⟨⟨v, p, q, hp, e5.of0 _ _ hs4⟩, ms, e5.of0 _ _ ha4, hml⟩, hx5, ne_of_none ha4 hnm, ne_of_none hs4 hnm, os, oa, fun z => ?_, fun b z => ?_⟩
    · obtain ⟨o, h1, _⟩ := (sa3.mono e4 Sro.F0).live z
      rw [hnm] at h1
      cases h1
    · obtain ⟨o, h1, _⟩ := sa5.live z
      rw [h1]
      exact fun y => nomatch y
  have dr5 := drw_FL (s := s) (a := a) (nm := nm) (st := st) (num := 0)
  -- a step of the store
  have step : ∀ (u : TS) (D' : Ends) st' (time num : Int) (r5 r6 r7 r8 r9 r10 r11 r12 : Option V) H', st'.ad = st.ad → (FL s a nm st' num).J H' → StoreAt K H' st' → SInv st' time num → num ≤ 150 →
      (∀ st2 (t2 : Int) H2, st2.ad = st.ad → (FL s a nm st2 (num + 1)).J H2 → StoreAt K H2 st2 → SInv st2 t2 (num + 1) → time ≤ t2 → t2 ≤ time + 3 → D'.nx [some (.ref a0), some (.ref s), some (.ref st.ad), some (.int t2), some (.ref nm), r5, r6, r7, r8, r9, r10, r11, r12] H2) →
      tAsg (tCall (sp_w_store_step K) [] E0 (tCons (tVar 1) (tCons (tVar 2) (tCons (tVar 3) (tCons (tVar 4) tNil))))) (gName 3) D' [some (.ref a0), some (.ref s), some (.ref st.ad), some (.int time), some (.ref nm), r5, r6, r7, r8, r9, r10, r11, r12] H' := by
    intro u D' st' time num r5 r6 r7 r8 r9 r10 r11 r12 H' ea j sa inv hn k
    refine ⟨_, rfl, _, rfl, _, rfl, _, rfl, s, a, nm, st', time, num, by rw [ea]; rfl, j, sa, inv, hn, fun st2 t2 H2 ea2 j2 sa2 inv2 l1 l2 => ?_⟩
    exact k st2 t2 H2 (ea2.trans ea) j2 sa2 inv2 l1 l2
  apply s_forRXS (F := FL s a nm st 0) (C := fun d => ∃ n : Int, d = .int n ∧ 5 ≤ n ∧ n ≤ 34) j5 (Pv := fun n i σ' H' => ∃ st' time b, σ' = [some (.ref a0), some (.ref s), some (.ref st.ad), some (.int time), some (.ref nm), b, none, none, none, none, none, none, none] ∧ st'.ad = st.ad ∧ (FL s a nm st' (i : Int)).J H' ∧ StoreAt K H' st' ∧ SInv st' time (i : Int) ∧ time ≤ 3 * (i : Int))
  · refine ec_add (Ev.toC1 ev_int) (ec_draw dr5 (n := 30) (ea_cons (ev_var rfl (.adr _)) (ea_cons ev_int ea_nil)) (by decide) (by decide)) eq_int below_int fun i k c1 c2 => ?_
    injection c1 with c1
    obtain ⟨r, e, r0, r1⟩ := c2
    injection e with e
    exact ⟨i + k, rfl, by omega, by omega⟩
  · rintro d ⟨n, rfl, n0, n1⟩
    exact ⟨n, rfl, by omega, by omega⟩
  · rintro n H6 _ e6
    exact ⟨st, 0, none, rfl, rfl, e6.j, sa5.mono e6 (sro_FL j5), inv0, Int.le_refl _⟩
  · rintro n i σ' H' ⟨m, em, n0, n1⟩ hi ⟨st', time, b, rfl, ea, j', sa', inv', ht⟩
    injection em with em
    subst em
    refine step tNext _ st' time i _ _ _ _ _ _ _ _ H' ea j' sa' inv' (by omega) fun st2 t2 H2 ea2 j2 sa2 inv2 l1 l2 => ?_
    exact ⟨st2, t2, _, rfl, ea2, j2, sa2, inv2, by omega⟩
  rintro n σ6 H6 ⟨m, em, n0, n1⟩ ⟨st6, time, b6, rfl, ea6, j6, sa6, inv6, ht6⟩
  injection em with em
  subst em
  have nn : ((n.toNat : Nat) : Int) = n := by omega
  rw [nn] at j6 inv6 ht6
  have adv : ∀ {G : Hp} {F : Fr} {st' : Sto}, st'.ad = st.ad → Dv F G (.ref st.ad) (.adr st'.ad) := fun {G F st'} h => by
    rw [h]
    exact .adr _
  have lenL : ∀ {F : Fr} {σ : L2.St} {G : Hp} {st' : Sto} {te : TE}, Ev F te σ G (kLg st'.cms) → Ev F (tCB (rLen K) (tCons te tNil)) σ G (.int (st'.cms.length : Nat)) := fun {F σ G st' te} h => by
    refine ev_cb (ea_cons h ea_nil) ?_
    rw [← len_map kCm st'.cms]
    exact rc_lenL
  apply s_setS (F := F0) (d := .int (time + 60)) trivial
  · exact ev_op (ev_var rfl (.int _)) ev_int rv_add
  intro v7 H7 e7 h7
  cases h7.int_inv
  have sa7 := sa6.mono e7 Sro.F0
  have j7 := (FL s a nm st6 n).same j6 e7.of0
  apply s_setS (F := F0) (d := .int (st6.cms.length : Nat)) trivial
  · exact lenL (ev_ledger ⟨Sro.F0, sa7⟩ (ev_var rfl (adv ea6)))
  intro v8 H8 e8 h8
  cases h8.int_inv
  have sa8 := sa7.mono e8 Sro.F0
  have j8 := (FL s a nm st6 n).same j7 e8.of0
  have inv8 := inv6.time (now' := time + 60) (by omega)
  have idle : ∀ p, p ∈ st6.lss → actF p.2 (time + 60) = false := fun p hp => by
    have z := inv6.til p hp
    unfold actF
    rw [decide_eq_false (by omega : ¬ time + 60 < p.2.til), Bool.and_false]
  obtain ⟨w9, c9, l9⟩ := settle_all idle
  apply s_settleS (st := st6) (by rw [ea6]; rfl) rfl sa8 (inv8.ok (by omega))
  intro H9 sa9 ch9
  have j9 := FL_chg j8 ch9 sa9
  have inv9 := inv8.settle
  have ea9 : (settleF (time + 60) st6).ad = st.ad := (settle_ad inv8).trans ea6
  rw [← l9] at idle
  generalize settleF (time + 60) st6 = st9 at *
  apply s_setS (F := F0) (d := .int (st9.cms.length : Nat)) trivial
  · refine Ev.to (ev_cb (ea_cons (ev_var rfl (.int _)) (ea_cons (lenL (ev_ledger ⟨Sro.F0, sa9⟩ (ev_var rfl (adv ea9)))) ea_nil)) rc_max) ?_
    congr 1
    split <;> omega
  intro v10 H10 e10 h10
  cases h10.int_inv
  have sa10 := sa9.mono e10 Sro.F0
  have j10 := (FL s a nm st9 n).same j9 e10.of0
  have dr10 := drw_FL (s := s) (a := a) (nm := nm) (st := st9) (num := n)
  apply s_handleS (st := st9) j10 (by rw [ea9]; rfl) ⟨sro_FL j10, sa10⟩ (eac_cons (ec_tup (eac_cons (Ev.toC1 ev_str) (eac_cons (Ev.toC1 ev_int) (eac_cons (Ev.toC1 ev_int) (eac_cons (Ev.toC1 (d := .int n) (ev_op (ev_var rfl (dv_nm j10)) ev_int (rv_ixL rfl))) (eac_cons (ec_group dr10 (ea_cons (ev_var rfl (.adr _)) ea_nil)) eac_nil))))) ?_) (eac_cons (Ev.toC1 (ev_var rfl (.int (time + 60)))) eac_nil))
  rotate_left
  · rintro ds ⟨d, r, rfl, _, d2, r2, rfl, _, d3, r3, rfl, _, d4, r4, rfl, _, d5, r5, rfl, _, rfl⟩
    exact Nat.le_of_ble_eq_true rfl
  rintro vs11 H11 ds11 e11 ⟨d, r, rfl, ⟨es, rfl, d1, r1, rfl, rfl, d2, r2, rfl, rfl, d3, r3, rfl, rfl, d4, r4, rfl, rfl, d5, r5, rfl, ⟨g, rfl, gk, _⟩, rfl⟩, d6, r6, rfl, rfl, rfl⟩ hv11
  obtain ⟨y1, y2, rfl, hy1, hy2⟩ := hv11.two
  cases hy2.int_inv
  have sa11 := sa10.mono e11 (sro_FL j10)
  refine hw_of (h := 0) (g := g) sa11 inv9 (by omega) hy1 gk (fun H12 sa12 c12 inv12 => ?_) fun _ _ z => z
  have j12 := FL_chg e11.j c12 sa12
  obtain ⟨w12, n12, l12⟩ := settle_all (st := writeF st9 ⟨0, 0, n, g⟩) idle
  have ea12 : (settleF (time + 60) (writeF st9 ⟨0, 0, n, g⟩)).ad = st.ad := (Eq.trans (settle_ad (st := writeF st9 ⟨0, 0, n, g⟩) (inv9.write rfl gk)) rfl : _ = st9.ad).trans ea9
  have n12' : (settleF (time + 60) (writeF st9 ⟨0, 0, n, g⟩)).cms.length = st9.cms.length + 1 := by
    rw [n12]
    show st9.cms.length + (st9.wts ++ [_]).length = _
    rw [w9]
    rfl
  generalize settleF (time + 60) (writeF st9 ⟨0, 0, n, g⟩) = st12 at *
  show tSeq _ _ _ _ _
  apply s_setS (F := F0) (d := kLg st12.cms) trivial
  · exact ev_ledger ⟨Sro.F0, sa12⟩ (ev_var rfl (adv ea12))
  intro v13 H13 e13 h13
  have sa13 := sa12.mono e13 Sro.F0
  have j13 := (FL s a nm st12 n).same j12 e13.of0
  apply s_ifFS (F := F0) (b := (!decide (((st12.cms.length : Nat) : Int) = ((st9.cms.length : Nat) : Int) + 1)) || (!(D.lst []).eqb (.lst []))) trivial
  · apply et_or
    · apply et_test
      exact ev_op (lenL (ev_var rfl h13)) (ev_op (ev_var rfl (.int _)) ev_int rv_add) rv_neI
    · intro _
      apply et_test
      refine ev_op (d1 := .lst []) ?_ (ev_lst ea_nil (Nat.le_of_ble_eq_true rfl)) (rv_neD 1 rfl rfl (by decide))
      have z := ev_pending (F := F0) (σ := [some (.ref a0), some (.ref s), some (.ref st.ad), some (.int (time + 60)), some (.ref nm), b6, some (.int (st9.cms.length : Nat)), some v13, none, none, none, none, none]) (ta := tVar 2) ⟨Sro.F0, sa13⟩ (ev_var rfl (adv ea12))
      rw [w12] at z
      exact z
  · rw [decide_eq_true (by omega : ((st12.cms.length : Nat) : Int) = ((st9.cms.length : Nat) : Int) + 1)]
    rfl
  intro H14 e14
  have sa14 := sa13.mono e14 Sro.F0
  have j14 := (FL s a nm st12 n).same j13 e14.of0
  apply s_itemS (F := FL s a nm st12 n) (C := fun x => x = .int (n + 1)) (p := nm) (xs := [.int n]) (n := 0) j14
  · exact Ev.toC1 (ev_op (ev_op (ev_var rfl (dv_nm j14)) ev_int (rv_ixL rfl)) ev_int rv_add)
  · rfl
  · exact fun H3 e3 => e3.j.2.1
  · rfl
  rintro v15 H15 d15 e15 rfl h15
  cases h15.int_inv
  show tSeq _ _ _ _ (upd H15 nm (.lst [.int (n + 1)]))
  have sa15 := sa14.mono e15 (sro_FL j14)
  have j16 := FL_num e15.j (k := n + 1)
  have sa16 := FL_stn e15.j (k := n + 1) sa15
  generalize upd H15 nm (.lst [.int (n + 1)]) = H16 at *
  have dr16 := drw_FL (s := s) (a := a) (nm := nm) (st := st12) (num := n + 1)
  apply s_forRXS (F := FL s a nm st12 (n + 1)) (C := Below 8) j16 (Pv := fun _ i σ' H' => ∃ st' t b, σ' = [some (.ref a0), some (.ref s), some (.ref st.ad), some (.int t), some (.ref nm), b, some (.int (st9.cms.length : Nat)), some v13, none, none, none, none, none] ∧ st'.ad = st.ad ∧ (FL s a nm st' (n + 1 + (i : Int))).J H' ∧ StoreAt K H' st' ∧ SInv st' t (n + 1 + (i : Int)) ∧ t ≤ time + 60 + 3 * (i : Int))
  · exact ec_draw dr16 (ea_cons (ev_var rfl (.adr _)) (ea_cons ev_int ea_nil)) (by decide) (by decide)
  · rintro d ⟨r, rfl, r0, r1⟩
    exact ⟨r, rfl, by omega, by omega⟩
  · rintro r H17 _ e17
    refine ⟨st12, time + 60, b6, rfl, ea12, ?_, sa16.mono e17 (sro_FL j16), ?_, by omega⟩
    · rw [show n + 1 + ((0 : Nat) : Int) = n + 1 from by omega]
      exact e17.j
    · rw [show n + 1 + ((0 : Nat) : Int) = n + 1 from by omega]
      exact inv12
  · rintro r i σ' H' ⟨m, em, r0, r1⟩ hi ⟨st', t, b, rfl, ea, j', sa', inv', ht⟩
    injection em with em
    subst em
    refine step tNext _ st' t (n + 1 + (i : Int)) _ _ _ _ _ _ _ _ H' ea j' sa' inv' (by omega) fun st2 t2 H2 ea2 j2 sa2 inv2 l1 l2 => ?_
    have en : n + 1 + (i : Int) + 1 = n + 1 + ((i + 1 : Nat) : Int) := by omega
    rw [en] at j2 inv2
    exact ⟨st2, t2, _, rfl, ea2, j2, sa2, inv2, by omega⟩
  rintro r σ17 H17 ⟨m, em, r0, r1⟩ ⟨st17, t, b17, rfl, ea17, j17, sa17, inv17, ht17⟩
  injection em with em
  subst em
  have num1 : n + 1 + ((r.toNat : Nat) : Int) ≤ 200 := by omega
  have t00 := inv17.t0
  have tle : t ≤ 1000 := by omega
  generalize n + 1 + ((r.toNat : Nat) : Int) = num at *
  have nn1 := inv17.n
  have nn2 := inv17.l
  have dr17 := drw_FL (s := s) (a := a) (nm := nm) (st := st17) (num := num)
  have tok : TOk st17 t := ⟨by omega, by omega, t00, by omega, inv17.gc⟩
  have p17 : preS K (FL s a nm st17 num) H17 st17 := ⟨sro_FL j17, sa17⟩
  apply s_forRS (F := FL s a nm st17 num) (n := 8) j17 ev_int (by decide) (by decide) (Pv := fun i σ' H' => ∃ b vr va vf, σ' = [some (.ref a0), some (.ref s), some (.ref st.ad), some (.int t), some (.ref nm), b, some (.int (st9.cms.length : Nat)), some v13, vr, va, vf, none, none] ∧ (0 < i → ∃ x rd, vr = some x ∧ Dv (FL s a nm st17 num) H' x (kRd rd) ∧ QsOk rd.qs ∧ rd.qs.length ≤ 3))
  · exact fun H18 e18 => ⟨b17, none, none, none, rfl, fun z => absurd z (by decide)⟩
  · rintro i σ' H' hi e' ⟨b, vr, va, vf, rfl, _⟩
    have pS := preS.mono e' p17
    apply s_setCS e'.j (ec_read dr17 (n := (i : Int)) (ea_cons (ev_var rfl (.adr _)) (ea_cons (ev_var rfl (.int _)) ea_nil)))
    rintro vr2 H18 d18 e18 ⟨rd, rfl, qk, q1, q3, sk⟩ h18
    have p18 := preS.mono e18 pS
    apply s_setCS e18.j (ec_answer dr17 (st := st17) (rd := rd) (time := t) p18 ⟨tok, qk, q3, q1⟩ (ea_cons (ev_var rfl (.adr _)) (ea_cons (ev_var rfl (adv ea17)) (ea_cons (ev_var rfl h18) (ea_cons (ev_var rfl (.int _)) ea_nil)))))
    rintro va2 H19 d19 e19 ⟨an, rfl, ak⟩ h19
    have p19 := preS.mono e19 p18
    have h189 := h18.mono e19
    apply s_forCN (F := FL s a nm st17 num) (C := fun d => ∃ fl : Int, d = .lst ([0, fl].map D.int) ∧ 0 ≤ fl) e19.j
    · refine EvC.imp (ec_lst (eac_cons (Ev.toC1 ev_int) (eac_cons (ec_draw dr17 (n := (st17.cms.length : Nat) + 1) (ea_cons (ev_var rfl (.adr _)) (ea_cons (ev_op (lenL (ev_ledger p19 (ev_var rfl (adv ea17)))) ev_int rv_add) ea_nil)) (by omega) (by omega)) eac_nil)) ?_) ?_
      · rintro ds ⟨d, r, rfl, _, d2, r2, rfl, _, rfl⟩
        exact Nat.le_of_ble_eq_true rfl
      · rintro d ⟨ds, rfl, d, r, rfl, rfl, d2, r2, rfl, ⟨fl, rfl, f0, _⟩, rfl⟩
        exact ⟨fl, rfl, f0⟩
    · rintro d ⟨fl, rfl, _⟩
      exact ⟨_, rfl⟩
    rintro ds v20 H20 e20 ⟨fl, efl, f0⟩ hv20
    injection efl with efl
    subst efl
    apply s_forL (F := FL s a nm st17 num) e20.j (ev_val hv20) (Pv := fun k σ' G => ∃ f, σ' = [some (.ref a0), some (.ref s), some (.ref st.ad), some (.int t), some (.ref nm), some (.int (i : Int)), some (.int (st9.cms.length : Nat)), some v13, some vr2, some va2, f, none, none])
    · exact fun H21 e21 => ⟨vf, rfl⟩
    · rintro k d v σ' H21 hk e21 ⟨f, rfl⟩ hv21
      rw [List.getElem?_map] at hk
      obtain ⟨fl2, hf2, rfl⟩ := Option.map_eq_some_iff.mp hk
      have fpos : 0 ≤ fl2 := by
        rcases List.mem_cons.mp (List.mem_of_getElem? hf2) with z | z
        · omega
        · rw [List.mem_singleton.mp z]
          exact f0
      have e1921 := e20.trans e21
      apply s_ifN (F := FL s a nm st17 num) (b := !true) e21.j
      · exact et_not (et_B (ev_toldL (num := num) (preS.mono e1921 p19) ⟨inv17, num1, fpos, qk, sk, ak⟩ (ea_cons (ev_var rfl (adv ea17)) (ea_cons (ev_var rfl (.int _)) (ea_cons (ev_var rfl hv21) (ea_cons (ev_var rfl (h189.mono e1921)) (ea_cons (ev_var rfl (h19.mono e1921)) ea_nil)))))))
      · intro z
        cases z
      · exact fun _ H22 e22 => ⟨e22, _, rfl⟩
    · rintro σ' H21 e21 ⟨f, rfl⟩
      have e1921 := e20.trans e21
      exact ⟨((e18.trans e19).trans e1921), _, _, _, _, rfl, fun _ => ⟨vr2, rd, rfl, h189.mono e1921, qk, q3⟩⟩
  rintro σ18 H18 e18 ⟨b, vr, va, vf, rfl, hvr⟩
  obtain ⟨x, rd, rfl, hrd, qk, q3⟩ := hvr (by decide)
  have p18 := preS.mono e18 p17
  apply s_setS e18.j (ev_ledger p18 (ev_var rfl (adv ea17)))
  intro v19 H19 e19 h19
  have p19 := preS.mono e19 p18
  have hrd19 : Dv (FL s a nm st17 num) H19 x (.tup [.int rd.num, .str rd.ses, kQs rd.qs, kP rd.pr]) := hrd.mono e19
  apply s_setS (d := kRd ⟨9, "s", rd.qs, .age 0⟩) e19.j
  · exact ev_tup (ea_cons ev_int (ea_cons ev_str (ea_cons (ev_op (ev_var rfl hrd19) ev_int (rv_ixT rfl)) (ea_cons (ev_tup (ea_cons ev_str (ea_cons ev_int ea_nil)) (Nat.le_of_ble_eq_true rfl)) ea_nil)))) (Nat.le_of_ble_eq_true rfl)
  intro v20 H20 e20 h20
  have p20 := preS.mono e20 p19
  have h1920 := h19.mono e20
  have hrd20 := hrd19.mono e20
  apply s_setS (d := kAn ⟨resF st17.cms rd.qs st17.cms.length, (st17.cms.length : Nat), [.at t (st17.cms.length : Nat)]⟩) e20.j
  · apply ev_tup
    · apply ea_cons
      · refine Ev.to (d1 := .lst (resF st17.cms rd.qs ((st17.cms.length : Nat) : Int).toNat)) ?_ ?_
        · apply ev_w_results
          · apply ea_cons
            · exact ev_var rfl h1920
            · apply ea_cons
              · exact ev_op (ev_var rfl hrd20) ev_int (rv_ixT rfl)
              · apply ea_cons
                · exact lenL (ev_var rfl h1920)
                · exact ea_nil
          · exact ⟨inv17.gc, by omega, qk⟩
        · rw [Int.toNat_natCast]
      · apply ea_cons
        · exact lenL (ev_var rfl h1920)
        · apply ea_cons
          · exact ev_lst (ea_cons (ev_tup (ea_cons ev_str (ea_cons (ev_var rfl (.int _)) (ea_cons (lenL (ev_var rfl h1920)) ea_nil))) (Nat.le_of_ble_eq_true rfl)) ea_nil) (Nat.le_of_ble_eq_true rfl)
          · exact ea_nil
    · exact Nat.le_of_ble_eq_true rfl
  intro v21 H21 e21 h21
  have p21 := preS.mono e21 p20
  apply s_ret (d := .bl (decide (true = true))) e21.j
  · refine ev_op (d1 := .bl true) ?_ ev_bl rv_isB
    have ak : AnOk ⟨resF st17.cms rd.qs st17.cms.length, (st17.cms.length : Nat), [.at t (st17.cms.length : Nat)]⟩ := ⟨⟨fit_resF _ _ _, by
      show (resF st17.cms rd.qs st17.cms.length).length ≤ 1000
      unfold resF
      rw [List.length_map]
      omega⟩, Nat.le_of_ble_eq_true rfl⟩
    rw [← acc_newest inv17 rd.qs]
    apply ev_accepts
    · apply ea_cons
      · exact ev_var rfl (h1920.mono e21)
      · apply ea_cons
        · exact ev_leases p21 (by omega) (ev_var rfl (adv ea17))
        · apply ea_cons
          · exact ev_var rfl (.int _)
          · apply ea_cons
            · exact ev_int
            · apply ea_cons
              · exact ev_var rfl (h20.mono e21)
              · apply ea_cons
                · exact ev_var rfl h21
                · exact ea_nil
    · exact ⟨inv17.gc, Int.le_refl _, ak, qk⟩
  · intro v22 H22 e22 h22
    cases h22.bl_inv
    exact kk H22
end
end Le

namespace Le
open PySem PySem.Spec PyProof.Rows L2
theorem ok_law {P : Program} {w : World} {K : PySem.W.Frag} {mg : Str → Option Value} {base : Heap} (T : Tx K mg) {fd : FuncData} (Fd : FunD K d_law.name d_law.qual d_law.params d_law.body d_law.scope [] [] (He.fAd K d_law.at_) fd) :
    FnOk P w K mg base CX0 8 (He.fAd K d_law.at_) fd ["_law_script"] (sp_law K) := by
  have G_w_state := g_w_state (P := P) (w := w) (base := base) T 
  have G_S_init := g_S_init (P := P) (w := w) (base := base) T 
  have G_w_mix := g_w_mix (P := P) (w := w) (base := base) T 
  have G_w_number := g_w_number (P := P) (w := w) (base := base) T G_w_mix
  have G_w_draw := g_w_draw (P := P) (w := w) (base := base) T G_w_number
  have G_contains := g_contains (P := P) (w := w) (base := base) T 
  have G_touches := g_touches (P := P) (w := w) (base := base) T G_contains
  have G_L_is_active := g_L_is_active (P := P) (w := w) (base := base) T 
  have G_S_recalls := g_S_recalls (P := P) (w := w) (base := base) T G_touches G_L_is_active
  have G_S_moment := g_S_moment (P := P) (w := w) (base := base) T 
  have G_S_is_held_up := g_S_is_held_up (P := P) (w := w) (base := base) T G_touches G_L_is_active
  have G_S_note := g_S_note (P := P) (w := w) (base := base) T 
  have G_S_commit := g_S_commit (P := P) (w := w) (base := base) T G_S_moment G_S_note
  have G_S_settle := g_S_settle (P := P) (w := w) (base := base) T G_S_moment G_S_is_held_up G_S_commit
  have G_S_handle_write := g_S_handle_write (P := P) (w := w) (base := base) T G_S_recalls G_S_settle
  have G_S_leased := g_S_leased (P := P) (w := w) (base := base) T 
  have G_S_is_awaited := g_S_is_awaited (P := P) (w := w) (base := base) T G_touches
  have G_L_init := g_L_init (P := P) (w := w) (base := base) T 
  have G_S_handle_lease := g_S_handle_lease (P := P) (w := w) (base := base) T G_S_leased G_S_is_awaited G_L_init G_S_moment
  have G_S_handle_return := g_S_handle_return (P := P) (w := w) (base := base) T G_S_settle
  have G_S_handle := g_S_handle (P := P) (w := w) (base := base) T G_S_handle_write G_S_handle_lease G_S_handle_return
  have G_w_key := g_w_key (P := P) (w := w) (base := base) T G_w_draw
  have G_w_group := g_w_group (P := P) (w := w) (base := base) T G_w_draw G_w_key
  have G_w_cover := g_w_cover (P := P) (w := w) (base := base) T G_w_key G_w_draw
  have G_L_told := g_L_told (P := P) (w := w) (base := base) T 
  have G_S_leases := g_S_leases (P := P) (w := w) (base := base) T G_L_told
  have G_w_store_step := g_w_store_step (P := P) (w := w) (base := base) T G_w_draw G_S_handle G_w_group G_w_cover G_S_leases G_S_settle
  have G_S_ledger := g_S_ledger (P := P) (w := w) (base := base) T 
  have G_S_pending := g_S_pending (P := P) (w := w) (base := base) T 
  have G_w_question := g_w_question (P := P) (w := w) (base := base) T G_w_cover G_w_draw
  have G_w_promise := g_w_promise (P := P) (w := w) (base := base) T G_w_draw
  have G_w_read := g_w_read (P := P) (w := w) (base := base) T G_w_draw G_w_question G_w_promise
  have G_w_at := g_w_at (P := P) (w := w) (base := base) T 
  have G_w_rows := g_w_rows (P := P) (w := w) (base := base) T 
  have G_w_cover_of := g_w_cover_of (P := P) (w := w) (base := base) T 
  have G_w_ask := g_w_ask (P := P) (w := w) (base := base) T G_w_rows G_w_cover_of
  have G_w_results := g_w_results (P := P) (w := w) (base := base) T G_w_at G_w_ask
  have G_w_within := g_w_within (P := P) (w := w) (base := base) T 
  have G_w_statement := g_w_statement (P := P) (w := w) (base := base) T G_w_draw
  have G_w_evidence := g_w_evidence (P := P) (w := w) (base := base) T G_w_draw G_w_statement
  have G_w_best_evidence := g_w_best_evidence (P := P) (w := w) (base := base) T G_S_leases G_S_ledger G_w_within G_w_cover_of G_w_evidence G_w_draw
  have G_w_answer := g_w_answer (P := P) (w := w) (base := base) T G_S_ledger G_w_draw G_w_results G_w_best_evidence G_w_evidence G_S_leases
  have G_w_tells := g_w_tells (P := P) (w := w) (base := base) T 
  have G_w_is_integer := g_w_is_integer (P := P) (w := w) (base := base) T 
  have G_w_same2 := g_w_same0 (P := P) (w := w) (base := base) T G_w_tells G_w_is_integer
  have G_w_same3 := g_w_sameS (n := 0) (by decide) (by decide) T G_w_tells G_w_is_integer G_w_same2
  have G_w_same4 := g_w_sameS (n := 1) (by decide) (by decide) T G_w_tells G_w_is_integer G_w_same3
  have G_w_same := g_w_sameS (n := 2) (by decide) (by decide) T G_w_tells G_w_is_integer G_w_same4
  have G_w_is_true := g_w_is_true (P := P) (w := w) (base := base) T 
  have G_w_supports := g_w_supports (P := P) (w := w) (base := base) T G_w_within G_w_cover_of
  have G_w_accepts := g_w_accepts (P := P) (w := w) (base := base) T G_w_same G_w_results G_w_is_true G_w_supports
  have G_apply := g_apply (P := P) (w := w) (base := base) T 
  have G_at := g_at (P := P) (w := w) (base := base) T G_apply
  have G_selected := g_selected (P := P) (w := w) (base := base) T G_contains
  have G_cover_of := g_cover_of (P := P) (w := w) (base := base) T 
  have G_least_record := g_least_record (P := P) (w := w) (base := base) T 
  have G_ask := g_ask (P := P) (w := w) (base := base) T G_selected G_cover_of G_least_record
  have G_results := g_results (P := P) (w := w) (base := base) T G_at G_ask
  have G_is_answer_at := g_is_answer_at (P := P) (w := w) (base := base) T G_results
  have G_is_true_at := g_is_true_at (P := P) (w := w) (base := base) T 
  have G_is_true := g_is_true (P := P) (w := w) (base := base) T G_is_true_at
  have G_includes := g_includes (P := P) (w := w) (base := base) T G_contains
  have G_supports_newest := g_supports_newest (P := P) (w := w) (base := base) T G_includes G_cover_of
  have G_supports := g_supports (P := P) (w := w) (base := base) T G_supports_newest
  have G_accepts := g_accepts (P := P) (w := w) (base := base) T G_is_answer_at G_is_true G_supports
  have G_w_touches := g_w_touches (P := P) (w := w) (base := base) T 
  have G_w_reach := g_w_reach (P := P) (w := w) (base := base) T G_w_cover_of G_w_touches
  have G_w_is_right := g_w_is_right (P := P) (w := w) (base := base) T G_w_is_integer G_w_same G_w_results G_w_reach
  have G_w_told := g_w_told (P := P) (w := w) (base := base) T G_S_ledger G_S_leases G_w_accepts G_w_tells G_accepts G_w_is_right
  exact g_law T G_w_state G_S_init G_w_draw G_w_store_step G_S_ledger G_S_settle G_S_handle G_w_group G_S_pending G_w_read G_w_answer G_w_told G_w_results G_accepts G_S_leases Fd
theorem facts {P : Program} {w : World} {K : PySem.W.Frag} {h : Heap} {mg : Str → Option Value} {f : Addr} (X : K.In h) (G : h.Ns mainGlobals mg) (hfa : mg ("law" : Str) = some (.ref f)) (c : Says K) :
    ∃ fd : FuncData, (∀ (s : Shared) (v : Value), BindsTo s fd ⟨[v], []⟩ [("_law_script", v)]) ∧ ∀ base : Heap, K.In base → base.Ns mainGlobals mg → FnOk P w K mg base CX0 8 f fd ["_law_script"] (sp_law K) := by
  obtain ⟨fd, F⟩ := D_law c
  have T : Tx K mg := tx_of X G c
  have e := hfa.symm.trans (T.glo _ (F_g_law c))
  have e2 : f = He.fAd K d_law.at_ := Value.ref.inj (Option.some.inj e)
  subst e2
  have b := FunD.bindsA (ps := ["_law_script"]) F fun _ _ _ _ _ _ us hl => match us, hl with | [_], _ => rfl
  exact ⟨fd, fun s v => b s [v] rfl, fun base _ _ => ok_law T F⟩
end Le
open PySem PySem.W PySem.Calls PyProof.Rows
theorem PySem.Challenge.cw_leasehall_k34_whole_accepted_is_right_holds : PySem.Challenge.rw_leasehall_k34_whole_accepted_is_right.Holds := by
  w_on; o_law
  refine HandSHeadRun.head_any (r := Le.R) (q := view Le.R.prog [57]) (H := Le.hk) (ob := Le.ob) (M := 6000) (loose := Le.loose) (d := HandSHeadRun.topDef Le.R.prog 57) (kwd := []) Le.ob_eq
    (by kernel_rfl) (fun s => by kernel_rfl) Le.run (by kernel_rfl) (by kernel_rfl) (by kernel_rfl) (by rfl) (by first | assumption | decide +kernel) (by decide +kernel) ⟨rfl, rfl, rfl, rfl, rfl, by decide +kernel⟩ ?hw ?hc
  case hw => w_witness2
  case hc =>
    refine L2.walk_ofE (l := PySem.Challenge.rw_leasehall_k34_whole_accepted_is_right) (n := 63) (k := 8) (x := "_law_script") (CX := L2.CX0) rfl (by decide) (by kernel_rfl) ⟨rfl, by decide, by decide⟩ ?F (fun _ _ _ _ z => z)
    intro w mg fa h Y G hmg0
    obtain ⟨K, KX, c⟩ := Y
    have hmg : mg ("law" : PySem.Str) = some (.ref fa) := by
      have e : (HandSHeadRun.topDef Le.R.prog 57).name = ("law" : PySem.Str) := by kernel_rfl
      rw [← e]
      exact hmg0
    obtain ⟨fd, hb, hF⟩ := Le.facts (P := (PySem.Challenge.rw_leasehall_k34_whole_accepted_is_right).prog) (w := w) KX G hmg c
    exact ⟨K, fd, Le.sp_law K, KX, hb, fun H a ns hl _ hS => ⟨a, ns, rfl, hS, hl, fun _ => rfl⟩, hF⟩
