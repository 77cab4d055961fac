import PyProof.Rows.All
import Wide.All
import OpenK.AllK
import Wide.FinOn
import HandS.ForMost
import HandS.IsInst
import HandS.Wide
import HandS.WideBits
import HandS.TupAny
import HandS.Zip
import HandS.Walk
import HandS.TupLe
import HandS.Rev
import HandS.Defaults
import HandS.Head0
import HandS.Head1
import HandS.Head2
import HandS.HeadEnd
import HandS.HeadHook1
import HandS.HeadHook2
import HandS.Sort
import KE.DataCmp
import HandS.Dict
import KE.KEqNest
import HandS.TupMul
import KE.SortData
import HandS.Iter
import HandS.Conv
import HandS.Style
import PySem.Challenge.RW_namelease_k18_whole_rows_of_answered_let
set_option Elab.async false
set_option linter.all false
set_option autoImplicit false
set_option maxRecDepth 100000
set_option maxHeartbeats 0
namespace Z
open PySem PySem.Spec L2
open PyProof.Rows hiding St

/-! ## the head's looks: what the module holds -/
abbrev D := PyData
def datsB (f : D → Value → Bool) : List D → List Value → Bool
  | [], [] => true
  | d :: ds, u :: us => f d u && datsB f ds us
  | _, _ => false
def datB (K : PySem.W.Frag) : Nat → D → Value → Bool
  | _, .none, u => He.relB .non u
  | _, .bool b, u => He.relB (.bl b) u
  | _, .int i, u => He.relB (.int i) u
  | _, .str s, u => PyData.strOk s && He.relB (.str s) u
  | n + 1, .tuple ds, .ref a => match K.lookup a with
    | some ⟨.type c, _, .seq its _, _⟩ => decide (c = "tuple") && (decide (its.size ≤ sizeLine) && datsB (datB K n) ds its.toList)
    | _ => false
  | _, _, _ => false
def datG (K : PySem.W.Frag) (q : Str × D) : Bool := match PySem.W.nsIn K mainGlobals q.1 with
  | some (some u) => datB K 6 q.2 u
  | _ => false
def exC (cs : List (Str × D)) (K : PySem.W.Frag) : Bool := cs.all (datG K)
/-! ## the head's looks -/
open He in
def hookC (n : Nat) (fa : List Fa) (fn : List DefD) (cs : List (Str × D)) : PySem.W.Hook where
  α := AlD × Bool
  obs := fun s => (obsDG n fa fn s.heap.get?, exC cs (frG s.heap.get? (asD s.heap.get? n)))
  val := fun _ => (valD fn, true)
  says := fun _ h => ∃ K : PySem.W.Frag, K.In h ∧ SaysD fa fn K ∧ exC cs K = true
  of := fun _ _ e => ⟨_, frG_in, congrArg Prod.fst e, congrArg Prod.snd e⟩
  keeps := fun _ _ _ ⟨K, hK, c⟩ k => ⟨K, PySem.W.Frag.In.keeps hK k, c⟩
open He in
def obC (n : Nat) (fa : List Fa) (fn : List DefD) (cs : List (Str × D)) (g : Addr → Option Obj) : AlD × Bool := (obsDG n fa fn g, exC cs (frG g (asD g n)))
open He in
theorem obC_eq {n : Nat} {fa : List Fa} {fn : List DefD} {cs : List (Str × D)} {g : Addr → Option Obj} {s : Shared} (h : ∀ a, g a = s.heap.get? a) : obC n fa fn cs g = (hookC n fa fn cs).obs s := by
  have e : g = s.heap.get? := funext h
  rw [e] <;> rfl
theorem exC_at {cs : List (Str × D)} {K : PySem.W.Frag} (h : exC cs K = true) (i : Nat) {q : Str × D} (e : cs[i]? = some q := by rfl) : datG K q = true := List.all_eq_true.mp h q (List.mem_of_getElem? e)
end Z
namespace K18
open PySem PySem.Spec L2 Z
open PyProof.Rows hiding St
abbrev row : PySem.W.OpenRow := PySem.W.OpenLaw.row PySem.Challenge.rw_namelease_k18_whole_rows_of_answered_let
def tp (i : Nat) : Stmt := PySem.Challenge.pw_namelease_k18_whole_rows_of_answered_let.main.body.getD i (.Pass ⟨0, 0, 0, 0⟩)
def C_DEEDS : D := (.tuple [(.str "create"), (.str "renew"), (.str "redeem"), (.str "delete"), (.str "lock"), (.str "unlock"), (.str "code"), (.str "take"), (.str "guess"), (.str "agree"), (.str "refuse")])
def C_WORDS : D := (.tuple [(.str "free"), (.str "held"), (.str "grace"), (.str "hold"), (.str "wait")])
abbrev s_l_well : Stmt := tp 86
abbrev s_is_tuple_up_to : Stmt := tp 12
abbrev s_is_tuple_of : Stmt := tp 13
abbrev s_is_named : Stmt := tp 11
abbrev s_is_number : Stmt := tp 6
abbrev s_is_up_to : Stmt := tp 7
abbrev s_is_house : Stmt := tp 41
abbrev s_is_came : Stmt := tp 77
abbrev s_waiting : Stmt := tp 46
abbrev s_fallen : Stmt := tp 47
abbrev s_greatest_age : Stmt := tp 40
abbrev s_lapsed : Stmt := tp 48
abbrev s_moved : Stmt := tp 51
abbrev s_moves_at_turn : Stmt := tp 52
abbrev s_turned_ask : Stmt := tp 53
abbrev s_turned_held : Stmt := tp 54
abbrev s_turned_by : Stmt := tp 55
abbrev s_holder_of : Stmt := tp 45
abbrev s_created : Stmt := tp 49
abbrev s_taken : Stmt := tp 56
abbrev s_deleted : Stmt := tp 57
abbrev s_renewed : Stmt := tp 58
abbrev s_done_held : Stmt := tp 59
abbrev s_revived : Stmt := tp 50
abbrev s_done_late : Stmt := tp 60
abbrev s_done_by : Stmt := tp 61
abbrev s_answered_by : Stmt := tp 62
abbrev s_life_behind_day : Stmt := tp 78
abbrev s_lives_along : Stmt := tp 79
abbrev s_is_truth_by : Stmt := tp 80
abbrev s_is_between : Stmt := tp 8
abbrev s_is_truth_values : Stmt := tp 9
abbrev s_is_rules_by : Stmt := tp 39
abbrev s_check_rules : Stmt := tp 64
abbrev s_is_ask : Stmt := tp 42
abbrev s_is_held : Stmt := tp 43
abbrev s_is_life_by : Stmt := tp 44
abbrev s_is_sent : Stmt := tp 69
abbrev s_are_sent : Stmt := tp 70
abbrev s_are_rising : Stmt := tp 14
abbrev s_is_seen : Stmt := tp 71
abbrev s_are_seen : Stmt := tp 72
abbrev s_is_view_by : Stmt := tp 73
abbrev s_check_view : Stmt := tp 74
abbrev s_is_late : Stmt := tp 75
abbrev s_check_late : Stmt := tp 76
abbrev s_check_known : Stmt := tp 82
abbrev s_is_truth_views : Stmt := tp 83
abbrev s_l_take : Stmt := tp 87
abbrev s_l_of : Stmt := tp 88
abbrev s_l_rules : Stmt := tp 99
abbrev s_l_top : Stmt := tp 91
abbrev s_l_life : Stmt := tp 100
abbrev s_l_fallen : Stmt := tp 90
abbrev s_l_turn : Stmt := tp 92
abbrev s_l_held : Stmt := tp 93
abbrev s_l_letter : Stmt := tp 94
abbrev s_l_holder : Stmt := tp 95
abbrev s_l_deed : Stmt := tp 101
abbrev s_l_lead : Stmt := tp 102
abbrev s_l_odd : Stmt := tp 103
abbrev s_l_bent : Stmt := tp 104
abbrev s_l_swapped : Stmt := tp 105
abbrev s_l_same : Stmt := tp 89
abbrev s_l_is_number : Stmt := tp 96
abbrev s_l_is_deed : Stmt := tp 97
abbrev s_l_is_truth : Stmt := tp 98
abbrev s_l_is_told : Stmt := tp 106
abbrev s_l_right : Stmt := tp 107
abbrev s_law : Stmt := tp 108
def d_l_well : He.DefD := ⟨("_law_well", none), "_law_well", "_law_well", defArgs s_l_well, defBody s_l_well, defScope s_l_well, [], []⟩
def d_is_tuple_up_to : He.DefD := ⟨("is_tuple_up_to", none), "is_tuple_up_to", "is_tuple_up_to", defArgs s_is_tuple_up_to, defBody s_is_tuple_up_to, defScope s_is_tuple_up_to, [], []⟩
def d_is_tuple_of : He.DefD := ⟨("is_tuple_of", none), "is_tuple_of", "is_tuple_of", defArgs s_is_tuple_of, defBody s_is_tuple_of, defScope s_is_tuple_of, [], []⟩
def d_is_named : He.DefD := ⟨("is_named", none), "is_named", "is_named", defArgs s_is_named, defBody s_is_named, defScope s_is_named, [], []⟩
def d_is_number : He.DefD := ⟨("is_number", none), "is_number", "is_number", defArgs s_is_number, defBody s_is_number, defScope s_is_number, [], []⟩
def d_is_up_to : He.DefD := ⟨("is_up_to", none), "is_up_to", "is_up_to", defArgs s_is_up_to, defBody s_is_up_to, defScope s_is_up_to, [], []⟩
def d_is_house : He.DefD := ⟨("is_house", none), "is_house", "is_house", defArgs s_is_house, defBody s_is_house, defScope s_is_house, [], []⟩
def d_is_came : He.DefD := ⟨("is_came", none), "is_came", "is_came", defArgs s_is_came, defBody s_is_came, defScope s_is_came, [], []⟩
def d_waiting : He.DefD := ⟨("waiting", none), "waiting", "waiting", defArgs s_waiting, defBody s_waiting, defScope s_waiting, [], []⟩
def d_fallen : He.DefD := ⟨("fallen", none), "fallen", "fallen", defArgs s_fallen, defBody s_fallen, defScope s_fallen, [], []⟩
def d_greatest_age : He.DefD := ⟨("greatest_age", none), "greatest_age", "greatest_age", defArgs s_greatest_age, defBody s_greatest_age, defScope s_greatest_age, [], []⟩
def d_lapsed : He.DefD := ⟨("lapsed", none), "lapsed", "lapsed", defArgs s_lapsed, defBody s_lapsed, defScope s_lapsed, [], []⟩
def d_moved : He.DefD := ⟨("moved", none), "moved", "moved", defArgs s_moved, defBody s_moved, defScope s_moved, [], []⟩
def d_moves_at_turn : He.DefD := ⟨("moves_at_turn", none), "moves_at_turn", "moves_at_turn", defArgs s_moves_at_turn, defBody s_moves_at_turn, defScope s_moves_at_turn, [], []⟩
def d_turned_ask : He.DefD := ⟨("turned_ask", none), "turned_ask", "turned_ask", defArgs s_turned_ask, defBody s_turned_ask, defScope s_turned_ask, [], []⟩
def d_turned_held : He.DefD := ⟨("turned_held", none), "turned_held", "turned_held", defArgs s_turned_held, defBody s_turned_held, defScope s_turned_held, [], []⟩
def d_turned_by : He.DefD := ⟨("turned_by", none), "turned_by", "turned_by", defArgs s_turned_by, defBody s_turned_by, defScope s_turned_by, [], []⟩
def d_holder_of : He.DefD := ⟨("holder_of", none), "holder_of", "holder_of", defArgs s_holder_of, defBody s_holder_of, defScope s_holder_of, [], []⟩
def d_created : He.DefD := ⟨("created", none), "created", "created", defArgs s_created, defBody s_created, defScope s_created, [], []⟩
def d_taken : He.DefD := ⟨("taken", none), "taken", "taken", defArgs s_taken, defBody s_taken, defScope s_taken, [], []⟩
def d_deleted : He.DefD := ⟨("deleted", none), "deleted", "deleted", defArgs s_deleted, defBody s_deleted, defScope s_deleted, [], []⟩
def d_renewed : He.DefD := ⟨("renewed", none), "renewed", "renewed", defArgs s_renewed, defBody s_renewed, defScope s_renewed, [], []⟩
def d_done_held : He.DefD := ⟨("done_held", none), "done_held", "done_held", defArgs s_done_held, defBody s_done_held, defScope s_done_held, [], []⟩
def d_revived : He.DefD := ⟨("revived", none), "revived", "revived", defArgs s_revived, defBody s_revived, defScope s_revived, [], []⟩
def d_done_late : He.DefD := ⟨("done_late", none), "done_late", "done_late", defArgs s_done_late, defBody s_done_late, defScope s_done_late, [], []⟩
def d_done_by : He.DefD := ⟨("done_by", none), "done_by", "done_by", defArgs s_done_by, defBody s_done_by, defScope s_done_by, [], []⟩
def d_answered_by : He.DefD := ⟨("answered_by", none), "answered_by", "answered_by", defArgs s_answered_by, defBody s_answered_by, defScope s_answered_by, [], []⟩
def d_life_behind_day : He.DefD := ⟨("life_behind_day", none), "life_behind_day", "life_behind_day", defArgs s_life_behind_day, defBody s_life_behind_day, defScope s_life_behind_day, [], []⟩
def d_lives_along : He.DefD := ⟨("lives_along", none), "lives_along", "lives_along", defArgs s_lives_along, defBody s_lives_along, defScope s_lives_along, [], []⟩
def d_is_truth_by : He.DefD := ⟨("is_truth_by", none), "is_truth_by", "is_truth_by", defArgs s_is_truth_by, defBody s_is_truth_by, defScope s_is_truth_by, [], []⟩
def d_is_between : He.DefD := ⟨("is_between", none), "is_between", "is_between", defArgs s_is_between, defBody s_is_between, defScope s_is_between, [], []⟩
def d_is_truth_values : He.DefD := ⟨("is_truth_values", none), "is_truth", "is_truth", defArgs s_is_truth_values, defBody s_is_truth_values, defScope s_is_truth_values, [], []⟩
def d_is_rules_by : He.DefD := ⟨("is_rules_by", none), "is_rules_by", "is_rules_by", defArgs s_is_rules_by, defBody s_is_rules_by, defScope s_is_rules_by, [], []⟩
def d_check_rules : He.DefD := ⟨("check_rules", none), "check_rules", "check_rules", defArgs s_check_rules, defBody s_check_rules, defScope s_check_rules, [], []⟩
def d_is_ask : He.DefD := ⟨("is_ask", none), "is_ask", "is_ask", defArgs s_is_ask, defBody s_is_ask, defScope s_is_ask, [], []⟩
def d_is_held : He.DefD := ⟨("is_held", none), "is_held", "is_held", defArgs s_is_held, defBody s_is_held, defScope s_is_held, [], []⟩
def d_is_life_by : He.DefD := ⟨("is_life_by", none), "is_life_by", "is_life_by", defArgs s_is_life_by, defBody s_is_life_by, defScope s_is_life_by, [], []⟩
def d_is_sent : He.DefD := ⟨("is_sent", none), "is_sent", "is_sent", defArgs s_is_sent, defBody s_is_sent, defScope s_is_sent, [], []⟩
def d_are_sent : He.DefD := ⟨("are_sent", none), "are_sent", "are_sent", defArgs s_are_sent, defBody s_are_sent, defScope s_are_sent, [], []⟩
def d_are_rising : He.DefD := ⟨("are_rising", none), "are_rising", "are_rising", defArgs s_are_rising, defBody s_are_rising, defScope s_are_rising, [], []⟩
def d_is_seen : He.DefD := ⟨("is_seen", none), "is_seen", "is_seen", defArgs s_is_seen, defBody s_is_seen, defScope s_is_seen, [], []⟩
def d_are_seen : He.DefD := ⟨("are_seen", none), "are_seen", "are_seen", defArgs s_are_seen, defBody s_are_seen, defScope s_are_seen, [], []⟩
def d_is_view_by : He.DefD := ⟨("is_view_by", none), "is_view_by", "is_view_by", defArgs s_is_view_by, defBody s_is_view_by, defScope s_is_view_by, [], []⟩
def d_check_view : He.DefD := ⟨("check_view", none), "check_view", "check_view", defArgs s_check_view, defBody s_check_view, defScope s_check_view, [], []⟩
def d_is_late : He.DefD := ⟨("is_late", none), "is_late", "is_late", defArgs s_is_late, defBody s_is_late, defScope s_is_late, [], []⟩
def d_check_late : He.DefD := ⟨("check_late", none), "check_late", "check_late", defArgs s_check_late, defBody s_check_late, defScope s_check_late, [], []⟩
def d_check_known : He.DefD := ⟨("check_known", none), "check_known", "check_known", defArgs s_check_known, defBody s_check_known, defScope s_check_known, [], []⟩
def d_is_truth_views : He.DefD := ⟨("is_truth_views", none), "is_truth", "is_truth", defArgs s_is_truth_views, defBody s_is_truth_views, defScope s_is_truth_views, [], []⟩
def d_l_take : He.DefD := ⟨("_law_take", none), "_law_take", "_law_take", defArgs s_l_take, defBody s_l_take, defScope s_l_take, [], []⟩
def d_l_of : He.DefD := ⟨("_law_of", none), "_law_of", "_law_of", defArgs s_l_of, defBody s_l_of, defScope s_l_of, [], []⟩
def d_l_rules : He.DefD := ⟨("_law_rules", none), "_law_rules", "_law_rules", defArgs s_l_rules, defBody s_l_rules, defScope s_l_rules, [], []⟩
def d_l_top : He.DefD := ⟨("_law_top", none), "_law_top", "_law_top", defArgs s_l_top, defBody s_l_top, defScope s_l_top, [], []⟩
def d_l_life : He.DefD := ⟨("_law_life", none), "_law_life", "_law_life", defArgs s_l_life, defBody s_l_life, defScope s_l_life, [], []⟩
def d_l_fallen : He.DefD := ⟨("_law_fallen", none), "_law_fallen", "_law_fallen", defArgs s_l_fallen, defBody s_l_fallen, defScope s_l_fallen, [], []⟩
def d_l_turn : He.DefD := ⟨("_law_turn", none), "_law_turn", "_law_turn", defArgs s_l_turn, defBody s_l_turn, defScope s_l_turn, [], []⟩
def d_l_held : He.DefD := ⟨("_law_held", none), "_law_held", "_law_held", defArgs s_l_held, defBody s_l_held, defScope s_l_held, [], []⟩
def d_l_letter : He.DefD := ⟨("_law_letter", none), "_law_letter", "_law_letter", defArgs s_l_letter, defBody s_l_letter, defScope s_l_letter, [], []⟩
def d_l_holder : He.DefD := ⟨("_law_holder", none), "_law_holder", "_law_holder", defArgs s_l_holder, defBody s_l_holder, defScope s_l_holder, [], []⟩
def d_l_deed : He.DefD := ⟨("_law_deed", none), "_law_deed", "_law_deed", defArgs s_l_deed, defBody s_l_deed, defScope s_l_deed, [], []⟩
def d_l_lead : He.DefD := ⟨("_law_lead", none), "_law_lead", "_law_lead", defArgs s_l_lead, defBody s_l_lead, defScope s_l_lead, [], []⟩
def d_l_odd : He.DefD := ⟨("_law_odd", none), "_law_odd", "_law_odd", defArgs s_l_odd, defBody s_l_odd, defScope s_l_odd, [], []⟩
def d_l_bent : He.DefD := ⟨("_law_bent", none), "_law_bent", "_law_bent", defArgs s_l_bent, defBody s_l_bent, defScope s_l_bent, [], []⟩
def d_l_swapped : He.DefD := ⟨("_law_swapped", none), "_law_swapped", "_law_swapped", defArgs s_l_swapped, defBody s_l_swapped, defScope s_l_swapped, [], []⟩
def d_l_same : He.DefD := ⟨("_law_same", none), "_law_same", "_law_same", defArgs s_l_same, defBody s_l_same, defScope s_l_same, [], []⟩
def d_l_is_number : He.DefD := ⟨("_law_is_number", none), "_law_is_number", "_law_is_number", defArgs s_l_is_number, defBody s_l_is_number, defScope s_l_is_number, [], []⟩
def d_l_is_deed : He.DefD := ⟨("_law_is_deed", none), "_law_is_deed", "_law_is_deed", defArgs s_l_is_deed, defBody s_l_is_deed, defScope s_l_is_deed, [], []⟩
def d_l_is_truth : He.DefD := ⟨("_law_is_truth", none), "_law_is_truth", "_law_is_truth", defArgs s_l_is_truth, defBody s_l_is_truth, defScope s_l_is_truth, [], []⟩
def d_l_is_told : He.DefD := ⟨("_law_is_told", none), "_law_is_told", "_law_is_told", defArgs s_l_is_told, defBody s_l_is_told, defScope s_l_is_told, [], []⟩
def d_l_right : He.DefD := ⟨("_law_right", none), "_law_right", "_law_right", defArgs s_l_right, defBody s_l_right, defScope s_l_right, [], []⟩
def d_law : He.DefD := ⟨("law", none), "law", "law", defArgs s_law, defBody s_law, defScope s_law, [], []⟩
def dl : List He.DefD := [d_l_well, d_is_tuple_up_to, d_is_tuple_of, d_is_named, d_is_number, d_is_up_to, d_is_house, d_is_came, d_waiting, d_fallen, d_greatest_age, d_lapsed, d_moved, d_moves_at_turn, d_turned_ask, d_turned_held, d_turned_by, d_holder_of, d_created, d_taken, d_deleted, d_renewed, d_done_held, d_revived, d_done_late, d_done_by, d_answered_by, d_life_behind_day, d_lives_along, d_is_truth_by, d_is_between, d_is_truth_values, d_is_rules_by, d_check_rules, d_is_ask, d_is_held, d_is_life_by, d_is_sent, d_are_sent, d_are_rising, d_is_seen, d_are_seen, d_is_view_by, d_check_view, d_is_late, d_check_late, d_check_known, d_is_truth_views, d_l_take, d_l_of, d_l_rules, d_l_top, d_l_life, d_l_fallen, d_l_turn, d_l_held, d_l_letter, d_l_holder, d_l_deed, d_l_lead, d_l_odd, d_l_bent, d_l_swapped, d_l_same, d_l_is_number, d_l_is_deed, d_l_is_truth, d_l_is_told, d_l_right, d_law]
def cst : List (Str × D) := [("MOST_HOUSE", (.int 3)), ("DEEDS", C_DEEDS), ("DONE", (.str "done")), ("REFUSED", (.str "refused")), ("FREE", (.str "free")), ("WAIT", (.str "wait")), ("HOLD", (.str "hold")), ("GRACE", (.str "grace")), ("HELD", (.str "held")), ("AGREE", (.str "agree")), ("CODE", (.str "code")), ("DELETE", (.str "delete")), ("LOCK", (.str "lock")), ("REFUSE", (.str "refuse")), ("RENEW", (.str "renew")), ("UNLOCK", (.str "unlock")), ("REDEEM", (.str "redeem")), ("CREATE", (.str "create")), ("TAKE", (.str "take")), ("MOST_DAYS_lifework", (.int 4)), ("MOST_TERM", (.int 9)), ("WORDS", C_WORDS), ("MOST_SENT", (.int 5)), ("MOST_DAYS_viewchecks", (.int 12)), ("MOST_LATE", (.int 3))]
def fcs : List He.Fa := [.glo "_law_well", .glo "is_tuple_up_to", .glo "is_tuple_of", .glo "is_named", .glo "is_number", .glo "is_up_to", .glo "is_house", .glo "is_came", .glo "waiting", .glo "fallen", .glo "greatest_age", .glo "lapsed", .glo "moved", .glo "moves_at_turn", .glo "turned_ask", .glo "turned_held", .glo "turned_by", .glo "holder_of", .glo "created", .glo "taken", .glo "deleted", .glo "renewed", .glo "done_held", .glo "revived", .glo "done_late", .glo "done_by", .glo "answered_by", .glo "life_behind_day", .glo "lives_along", .glo "is_truth_by", .glo "is_between", .glo "is_truth_values", .glo "is_rules_by", .glo "check_rules", .glo "is_ask", .glo "is_held", .glo "is_life_by", .glo "is_sent", .glo "are_sent", .glo "are_rising", .glo "is_seen", .glo "are_seen", .glo "is_view_by", .glo "check_view", .glo "is_late", .glo "check_late", .glo "check_known", .glo "is_truth_views", .glo "_law_take", .glo "_law_of", .glo "_law_rules", .glo "_law_top", .glo "_law_life", .glo "_law_fallen", .glo "_law_turn", .glo "_law_held", .glo "_law_letter", .glo "_law_holder", .glo "_law_deed", .glo "_law_lead", .glo "_law_odd", .glo "_law_bent", .glo "_law_swapped", .glo "_law_same", .glo "_law_is_number", .glo "_law_is_deed", .glo "_law_is_truth", .glo "_law_is_told", .glo "_law_right", .glo "law", .free "len", .free "abs", .free "max", .free "min", .free "sum", .free "all", .free "any", .free "divmod", .free "int", .free "tuple", .free "list", .free "isinstance", .free "range", .free "enumerate", .free "zip", .free "bool", .free "str", .free "dict", .free "sorted"]
abbrev hk : PySem.W.Hook := hookC 4 fcs dl cst
def ob (s : PySem.W.SharedT) : He.AlD × Bool := obC 4 fcs dl cst (HandSHeadRun.getT s)
theorem ob_eq (s : PySem.W.SharedT) : ob s = hk.obs s.abs := obC_eq (HandSHeadRun.getT_eq s)
def ls0 : List Str := ["LeaseError", "InvalidRules", "InvalidNumber", "InvalidView", "is_number", "is_up_to", "is_between", "is_truth", "is_truth_values", "is_named", "is_tuple_up_to", "is_tuple_of", "are_rising", "FREE", "HELD", "GRACE", "HOLD", "WAIT", "WORDS", "CREATE"]
def ls1 : List Str := ["RENEW", "REDEEM", "DELETE", "LOCK", "UNLOCK", "CODE", "TAKE", "GUESS", "AGREE", "REFUSE", "DEEDS", "DONE", "REFUSED", "MOST_HOUSE", "MOST_TERM", "MOST_DAYS_lifework", "is_rules_by", "greatest_age", "is_house", "is_ask"]
def ls2 : List Str := ["is_held", "is_life_by", "holder_of", "waiting", "fallen", "lapsed", "created", "revived", "moved", "moves_at_turn", "turned_ask", "turned_held", "turned_by", "taken", "deleted", "renewed", "done_held", "done_late", "done_by", "answered_by"]
def ls3 : List Str := ["check_rules", "MOST_LATE", "MOST_DAYS_viewchecks", "MOST_SENT", "is_sent", "are_sent", "is_seen", "are_seen", "is_view_by", "check_view", "is_late", "check_late", "is_came", "life_behind_day", "lives_along", "is_truth_by", "check_known", "is_truth_views", "_law_well", "_law_take"]
def ls4 : List Str := ["_law_of", "_law_same", "_law_fallen", "_law_top", "_law_turn", "_law_held", "_law_letter", "_law_holder", "_law_is_number", "_law_is_deed", "_law_is_truth", "_law_rules", "_law_life", "_law_deed", "_law_lead", "_law_odd", "_law_bent", "_law_swapped", "_law_is_told", "_law_right"]
def ls : List Str := ls0 ++ ls1 ++ ls2 ++ ls3 ++ ls4
theorem run (w : World) : HandSHeadRun.RunEq row (PySem.W.view row.prog [108]) hk ob 9000 ls w := by
  intro os
  kernel_rfl
end K18
namespace Z
open PySem PySem.Spec L2
open PyProof.Rows hiding St

/-! ## data and how a heap shows it -/
inductive RV where
  | v (d : D)
  | o (d : D)
def RV.d : RV → D
  | .v d => d
  | .o d => d
abbrev Rho := List (Option RV)
abbrev AS := Addr → Prop
def kD : L2.Key → D
  | .inl i => .int i
  | .inr s => .str s

def LA (K : PySem.W.Frag) (H : Hp) (O : AS) (a : Addr) (vs : List V) : Prop := (Rd H a (.lst vs) ∧ ¬ O a) ∨ SqL K (fun _ => none) a vs
def TAt (K : PySem.W.Frag) (H : Hp) (O : AS) (a : Addr) (vs : List V) : Prop := (Rd H a (.tup vs) ∧ ¬ O a) ∨ SqT K (fun _ => none) a vs
mutual
inductive Rep (K : PySem.W.Frag) (H : Hp) (O : AS) : D → V → Prop
  | non : Rep K H O .none .non
  | bl (b : Bool) : Rep K H O (.bool b) (.bl b)
  | int (i : Int) : Rep K H O (.int i) (.int i)
  | str (x : Str) (h : PyData.strOk x = true) : Rep K H O (.str x) (.str x)
  | lst {a : Addr} {vs : List V} {ds : List D} : LA K H O a vs → Reps K H O ds vs → Rep K H O (.list ds) (.ref a)
  | tup {a : Addr} {vs : List V} {ds : List D} : TAt K H O a vs → Reps K H O ds vs → Rep K H O (.tuple ds) (.ref a)
  | dic {a : Addr} {kvs : List (L2.Key × V)} {ds : List (D × D)} : H a = some (.dK kvs) → ¬ O a → RepK K H O ds kvs → Rep K H O (.dict ds) (.ref a)
inductive Reps (K : PySem.W.Frag) (H : Hp) (O : AS) : List D → List V → Prop
  | nil : Reps K H O [] []
  | cons {d : D} {v : V} {ds : List D} {vs : List V} : Rep K H O d v → Reps K H O ds vs → Reps K H O (d :: ds) (v :: vs)
inductive RepK (K : PySem.W.Frag) (H : Hp) (O : AS) : List (D × D) → List (L2.Key × V) → Prop
  | nil : RepK K H O [] []
  | cons {k : L2.Key} {d : D} {v : V} {ds : List (D × D)} {vs : List (L2.Key × V)} : Rep K H O d v → RepK K H O ds vs → RepK K H O ((kD k, d) :: ds) ((k, v) :: vs)
end
/-- what is not owned stays, and stays not owned -/
def Keeps (H : Hp) (O : AS) (H' : Hp) (O' : AS) : Prop := ∀ b o, H b = some o → ¬ O b → H' b = some o ∧ ¬ O' b
theorem Keeps.trans {H H1 H2 : Hp} {O O1 O2 : AS} (a : Keeps H O H1 O1) (b : Keeps H1 O1 H2 O2) : Keeps H O H2 O2 := fun c o h n => let ⟨h1, n1⟩ := a c o h n; b c o h1 n1
theorem Keeps.rfl {H : Hp} {O : AS} : Keeps H O H O := fun _ _ h n => ⟨h, n⟩

section
variable {K : PySem.W.Frag} {H H' : Hp} {O O' : AS} {a : Addr} {vs : List V}
theorem LA.mono (k : Keeps H O H' O') (h : LA K H O a vs) : LA K H' O' a vs := by
  rcases h with ⟨h | ⟨o, h⟩, n⟩ | h
  · exact .inl ⟨.inl (k _ _ h n).1, (k _ _ h n).2⟩
  · exact .inl ⟨.inr ⟨o, (k _ _ h n).1⟩, (k _ _ h n).2⟩
  · exact .inr h
theorem TAt.mono (k : Keeps H O H' O') (h : TAt K H O a vs) : TAt K H' O' a vs := by
  rcases h with ⟨h | ⟨o, h⟩, n⟩ | h
  · exact .inl ⟨.inl (k _ _ h n).1, (k _ _ h n).2⟩
  · exact .inl ⟨.inr ⟨o, (k _ _ h n).1⟩, (k _ _ h n).2⟩
  · exact .inr h
theorem LA.sq (h : LA K H O a vs) : SqL K H a vs := by
  rcases h with ⟨h, _⟩ | (h | h)
  · exact .inl h
  · rcases h with h | ⟨_, h⟩ <;> cases h
  · exact .inr h
theorem TAt.sq (h : TAt K H O a vs) : SqT K H a vs := by
  rcases h with ⟨h, _⟩ | (h | h)
  · exact .inl h
  · rcases h with h | ⟨_, h⟩ <;> cases h
  · exact .inr h
mutual
theorem Rep.mono (k : Keeps H O H' O') : ∀ {d : D} {v : V}, Rep K H O d v → Rep K H' O' d v
  | _, _, .non => .non
  | _, _, .bl b => .bl b
  | _, _, .int i => .int i
  | _, _, .str x h => .str x h
  | _, _, .lst h r => .lst (h.mono k) (Reps.mono k r)
  | _, _, .tup h r => .tup (h.mono k) (Reps.mono k r)
  | _, _, .dic h n r => .dic (k _ _ h n).1 (k _ _ h n).2 (RepK.mono k r)
theorem Reps.mono (k : Keeps H O H' O') : ∀ {ds : List D} {vs : List V}, Reps K H O ds vs → Reps K H' O' ds vs
  | _, _, .nil => .nil
  | _, _, .cons r t => .cons (Rep.mono k r) (Reps.mono k t)
theorem RepK.mono (k : Keeps H O H' O') : ∀ {ds : List (D × D)} {vs : List (L2.Key × V)}, RepK K H O ds vs → RepK K H' O' ds vs
  | _, _, .nil => .nil
  | _, _, .cons r t => .cons (Rep.mono k r) (RepK.mono k t)
end
mutual
/-- no dict within -/
def noDict : D → Bool
  | .list ds => noDicts ds
  | .tuple ds => noDicts ds
  | .dict _ => false
  | _ => true
def noDicts : List D → Bool
  | [] => true
  | d :: ds => noDict d && noDicts ds
end
mutual
theorem Rep.dp : ∀ {d : D} {v : V}, Rep K H O d v → noDict d = true → Dp K H v d
  | _, _, .non, _ => .non
  | _, _, .bl b, _ => .bl b
  | _, _, .int i, _ => .int i
  | _, _, .str x _, _ => .str x
  | _, _, .lst h r, n => .lst h.sq (Reps.dp r (by simpa [noDict] using n))
  | _, _, .tup h r, n => .tup h.sq (Reps.dp r (by simpa [noDict] using n))
  | _, _, .dic h _ r, n => by simp [noDict] at n
theorem Reps.dp : ∀ {ds : List D} {vs : List V}, Reps K H O ds vs → noDicts ds = true → DpAll K H vs ds
  | _, _, .nil, _ => .nil
  | _, _, .cons r t, n => by
    simp only [noDicts, Bool.and_eq_true] at n
    exact .cons (Rep.dp r n.1) (Reps.dp t n.2)
end
mutual
theorem Rep.lay : ∀ {d : D} {v : V}, Rep K H O d v → noDict d = true → d.canLay0 = true
  | _, _, .non, _ => by rfl
  | _, _, .bl b, _ => by rfl
  | _, _, .int i, _ => by rfl
  | _, _, .str x h, _ => by rw [PyData.canLay0]; exact h
  | _, _, .lst _ r, n => by rw [PyData.canLay0]; exact Reps.lay r (by simpa [noDict] using n)
  | _, _, .tup _ r, n => by rw [PyData.canLay0]; exact Reps.lay r (by simpa [noDict] using n)
  | _, _, .dic h _ r, n => by simp [noDict] at n
theorem Reps.lay : ∀ {ds : List D} {vs : List V}, Reps K H O ds vs → noDicts ds = true → PyData.canLayAll0 ds = true
  | _, _, .nil, _ => by rfl
  | _, _, .cons r t, n => by
    simp only [noDicts, Bool.and_eq_true] at n
    rw [PyData.canLayAll0, Rep.lay r n.1, Reps.lay t n.2]; rfl
end
theorem Reps.length : ∀ {ds : List D} {vs : List V}, Reps K H O ds vs → ds.length = vs.length
  | _, _, .nil => rfl
  | _, _, .cons _ t => by simp [Reps.length t]
theorem RepK.length : ∀ {ds : List (D × D)} {vs : List (L2.Key × V)}, RepK K H O ds vs → ds.length = vs.length
  | _, _, .nil => rfl
  | _, _, .cons _ t => by simp [RepK.length t]
theorem Reps.get : ∀ {ds : List D} {vs : List V} {i : Nat} {d : D}, Reps K H O ds vs → ds[i]? = some d → ∃ v, vs[i]? = some v ∧ Rep K H O d v
  | _, _, _, _, .nil, e => by simp at e
  | _, _, 0, _, .cons r _, e => by simp at e; subst e; exact ⟨_, rfl, r⟩
  | _, _, i + 1, d, .cons _ t, e => by
    obtain ⟨v, h1, h2⟩ := Reps.get (i := i) t (by simpa using e)
    exact ⟨v, by simpa using h1, h2⟩
theorem Reps.append : ∀ {ds es : List D} {vs ws : List V}, Reps K H O ds vs → Reps K H O es ws → Reps K H O (ds ++ es) (vs ++ ws)
  | _, _, _, _, .nil, s => s
  | _, _, _, _, .cons r t, s => .cons r (Reps.append t s)
theorem Reps.take : ∀ {ds : List D} {vs : List V} (n : Nat), Reps K H O ds vs → Reps K H O (ds.take n) (vs.take n)
  | _, _, 0, _ => .nil
  | _, _, _ + 1, .nil => .nil
  | _, _, n + 1, .cons r t => .cons r (Reps.take n t)
theorem Reps.drop : ∀ {ds : List D} {vs : List V} (n : Nat), Reps K H O ds vs → Reps K H O (ds.drop n) (vs.drop n)
  | _, _, 0, r => r
  | _, _, _ + 1, .nil => .nil
  | _, _, n + 1, .cons _ t => Reps.drop n t
theorem Reps.set : ∀ {ds : List D} {vs : List V} {d : D} {v : V} (i : Nat), Rep K H O d v → Reps K H O ds vs → Reps K H O (ds.set i d) (vs.set i v)
  | _, _, _, _, _, _, .nil => .nil
  | _, _, _, _, 0, q, .cons _ t => .cons q t
  | _, _, _, _, i + 1, q, .cons r t => .cons r (Reps.set i q t)
theorem Reps.ints : ∀ {ds : List D} {vs : List V} {ns : List Int}, Reps K H O ds vs → ds = ns.map .int → vs = ns.map V.int
  | _, _, [], .nil, _ => rfl
  | _, _, _ :: _, .nil, e => by simp at e
  | _, _, [], .cons _ _, e => by simp at e
  | _, _, n :: ns, .cons r t, e => by
    simp only [List.map_cons, List.cons.injEq] at e
    obtain ⟨e1, e2⟩ := e
    subst e1
    cases r
    rw [Reps.ints t e2]; rfl
theorem Reps.bools : ∀ {ds : List D} {vs : List V} {ns : List Bool}, Reps K H O ds vs → ds = ns.map .bool → vs = ns.map V.bl
  | _, _, [], .nil, _ => rfl
  | _, _, _ :: _, .nil, e => by simp at e
  | _, _, [], .cons _ _, e => by simp at e
  | _, _, n :: ns, .cons r t, e => by
    simp only [List.map_cons, List.cons.injEq] at e
    obtain ⟨e1, e2⟩ := e
    subst e1
    cases r
    rw [Reps.bools t e2]; rfl
theorem Reps.strs : ∀ {ds : List D} {vs : List V} {ns : List Str}, Reps K H O ds vs → ds = ns.map .str → vs = ns.map V.str
  | _, _, [], .nil, _ => rfl
  | _, _, _ :: _, .nil, e => by simp at e
  | _, _, [], .cons _ _, e => by simp at e
  | _, _, n :: ns, .cons r t, e => by
    simp only [List.map_cons, List.cons.injEq] at e
    obtain ⟨e1, e2⟩ := e
    subst e1
    cases r
    rw [Reps.strs t e2]; rfl
end

def OwnAt (K : PySem.W.Frag) (H : Hp) (O : AS) (d : D) (a : Addr) : Prop :=
  match d with
  | .list ds => ∃ vs, H a = some (.lst vs) ∧ Reps K H O ds vs
  | .dict ds => ∃ kvs, H a = some (.dK kvs) ∧ RepK K H O ds kvs
  | _ => False
theorem OwnAt.there {K : PySem.W.Frag} {H : Hp} {O : AS} {d : D} {a : Addr} (h : OwnAt K H O d a) : ∃ o, H a = some o := by
  cases d <;> first | exact (show False from h).elim | exact let ⟨_, e, _⟩ := h; ⟨_, e⟩
theorem OwnAt.mono {K : PySem.W.Frag} {H H' : Hp} {O O' : AS} {d : D} {a : Addr} (k : Keeps H O H' O') (ha : ∀ o, H a = some o → H' a = some o) (h : OwnAt K H O d a) : OwnAt K H' O' d a := by
  cases d <;> first
    | exact (show False from h).elim
    | exact let ⟨vs, e, r⟩ := (h : ∃ vs, H a = some (.lst vs) ∧ Reps K H O _ vs); ⟨vs, ha _ e, r.mono k⟩
    | exact let ⟨vs, e, r⟩ := (h : ∃ vs, H a = some (.dK vs) ∧ RepK K H O _ vs); ⟨vs, ha _ e, r.mono k⟩
theorem OwnAt.rep {K : PySem.W.Frag} {H : Hp} {O O' : AS} {d : D} {a : Addr} (k : Keeps H O H O') (n : ¬ O' a) (h : OwnAt K H O d a) : Rep K H O' d (.ref a) := by
  cases d <;> first
    | exact (show False from h).elim
    | exact let ⟨vs, e, r⟩ := (h : ∃ vs, H a = some (.lst vs) ∧ Reps K H O _ vs); .lst (.inl ⟨.inl e, n⟩) (r.mono k)
    | exact let ⟨vs, e, r⟩ := (h : ∃ vs, H a = some (.dK vs) ∧ RepK K H O _ vs); .dic e n (r.mono k)
/-- what an operator may read -/
def Top (K : PySem.W.Frag) (H : Hp) (O : AS) (d : D) (v : V) : Prop := Rep K H O d v ∨ ∃ a, v = .ref a ∧ OwnAt K H O d a
section
variable {K : PySem.W.Frag} {H H' : Hp} {O O' : AS} {v : V}
theorem Top.list {ds : List D} (h : Top K H O (.list ds) v) : ∃ a vs, v = .ref a ∧ SqL K H a vs ∧ Reps K H O ds vs := by
  rcases h with h | ⟨a, rfl, vs, e, r⟩
  · cases h with
    | lst l r => exact ⟨_, _, rfl, l.sq, r⟩
  · exact ⟨a, vs, rfl, .inl (.inl e), r⟩
theorem Top.tuple {ds : List D} (h : Top K H O (.tuple ds) v) : ∃ a vs, v = .ref a ∧ SqT K H a vs ∧ Reps K H O ds vs := by
  rcases h with h | ⟨a, rfl, h⟩
  · cases h with
    | tup l r => exact ⟨_, _, rfl, l.sq, r⟩
  · exact (show False from h).elim
theorem Top.dict {ds : List (D × D)} (h : Top K H O (.dict ds) v) : ∃ a kvs, v = .ref a ∧ H a = some (.dK kvs) ∧ RepK K H O ds kvs := by
  rcases h with h | ⟨a, rfl, vs, e, r⟩
  · cases h with
    | dic l _ r => exact ⟨_, _, rfl, l, r⟩
  · exact ⟨a, vs, rfl, e, r⟩
theorem Top.int {i : Int} (h : Top K H O (.int i) v) : v = .int i := by
  rcases h with h | ⟨a, rfl, h⟩
  · cases h; rfl
  · exact (show False from h).elim
theorem Top.str {i : Str} (h : Top K H O (.str i) v) : v = .str i := by
  rcases h with h | ⟨a, rfl, h⟩
  · cases h; rfl
  · exact (show False from h).elim
theorem Top.bl {i : Bool} (h : Top K H O (.bool i) v) : v = .bl i := by
  rcases h with h | ⟨a, rfl, h⟩
  · cases h; rfl
  · exact (show False from h).elim
theorem Top.non (h : Top K H O .none v) : v = .non := by
  rcases h with h | ⟨a, rfl, h⟩
  · cases h; rfl
  · exact (show False from h).elim
theorem Top.strOk {i : Str} (h : Top K H O (.str i) v) : PyData.strOk i = true := by
  rcases h with h | ⟨a, rfl, h⟩
  · cases h; assumption
  · exact (show False from h).elim
theorem Top.lay {d : D} (h : Top K H O d v) (n : noDict d = true) : d.canLay0 = true := by
  rcases h with h | ⟨a, rfl, h⟩
  · exact h.lay n
  · cases d <;> first
      | exact (show False from h).elim
      | exact (by obtain ⟨vs, e, r⟩ := h; rw [PyData.canLay0]; exact r.lay (by simpa [noDict] using n))
      | simp [noDict] at n
theorem Top.dp {d : D} (h : Top K H O d v) (n : noDict d = true) : Dp K H v d := by
  rcases h with h | ⟨a, rfl, h⟩
  · exact h.dp n
  · cases d <;> first
      | exact (show False from h).elim
      | exact (by obtain ⟨vs, e, r⟩ := h; exact .lst (.inl (.inl e)) (r.dp (by simpa [noDict] using n)))
      | simp [noDict] at n
end

/-! ## the slots -/
structure Cn where
  K : PySem.W.Frag
  H0 : Hp
  s0 : St
  pr : List Nat
def OwnS (ρ : Rho) (σ : St) : AS := fun b => ∃ (i : Nat) (d : D), ρ[i]? = some (some (.o d)) ∧ σ[i]? = some (some (.ref b))
def OE (ρ : Rho) (σ : St) (E : AS) : AS := fun b => E b ∨ OwnS ρ σ b
def Add (E : AS) (a : Addr) : AS := fun b => E b ∨ b = a
structure R (c : Cn) (E : AS) (ρ : Rho) (σ : St) (H : Hp) : Prop where
  len : ρ.length = σ.length
  val : ∀ (i : Nat) (d : D), ρ[i]? = some (some (.v d)) → ∃ v, σ[i]? = some (some v) ∧ Rep c.K H (OE ρ σ E) d v
  own : ∀ (i : Nat) (d : D), ρ[i]? = some (some (.o d)) → ∃ a, σ[i]? = some (some (.ref a)) ∧ OwnAt c.K H (OE ρ σ E) d a ∧ ¬ E a ∧ (c.H0 a = none ∨ ∃ j ∈ c.pr, c.s0[j]? = some (some (.ref a)))
  inj : ∀ (i j : Nat) (d e : D) (a : Addr), ρ[i]? = some (some (.o d)) → ρ[j]? = some (some (.o e)) → σ[i]? = some (some (.ref a)) → σ[j]? = some (some (.ref a)) → i = j
  eal : ∀ b, E b → ∃ o, H b = some o
  al : ∀ b o, c.H0 b = some o → ∃ o', H b = some o'
  prt : ∀ i ∈ c.pr, σ[i]? = c.s0[i]?
/-- from one state to a later one -/
structure Stp (ρ : Rho) (σ : St) (H : Hp) (ρ' : Rho) (σ' : St) (H' : Hp) : Prop where
  keep : ∀ b o, H b = some o → ¬ OwnS ρ σ b → H' b = some o
  all : ∀ b o, H b = some o → ∃ o', H' b = some o'
  own : ∀ b o, H b = some o → OwnS ρ' σ' b → OwnS ρ σ b
section
variable {c : Cn} {E : AS} {ρ ρ1 ρ' : Rho} {σ σ1 σ' : St} {H H1 H' : Hp} {d : D} {v z : V} {a : Addr}
theorem Stp.rfl : Stp ρ σ H ρ σ H := ⟨fun _ _ h _ => h, fun _ _ h => ⟨_, h⟩, fun _ _ _ h => h⟩
theorem Stp.trans (s : Stp ρ σ H ρ1 σ1 H1) (t : Stp ρ1 σ1 H1 ρ' σ' H') : Stp ρ σ H ρ' σ' H' :=
  ⟨fun b o h n => t.keep b o (s.keep b o h n) fun q => n (s.own b o h q), fun b o h => let ⟨o1, h1⟩ := s.all b o h; t.all b o1 h1,
   fun b o h q => let ⟨o1, h1⟩ := s.all b o h; s.own b o h (t.own b o1 h1 q)⟩
theorem Stp.keeps (s : Stp ρ σ H ρ' σ' H') : Keeps H (OE ρ σ E) H' (OE ρ' σ' E) := fun b o h n =>
  ⟨s.keep b o h fun q => n (.inr q), fun q => n (q.elim .inl fun q => .inr (s.own b o h q))⟩
theorem Keeps.add {O : AS} (n : H a = none) : Keeps H O H (Add O a) := fun b o h k => ⟨h, fun q => q.elim k fun e => by subst e; rw [n] at h; cases h⟩
theorem OE_add : OE ρ σ (Add E a) = Add (OE ρ σ E) a := by
  funext b
  apply propext
  constructor
  · rintro ((h | h) | h)
    · exact .inl (.inl h)
    · exact .inr h
    · exact .inl (.inr h)
  · rintro ((h | h) | h)
    · exact .inl (.inl h)
    · exact .inr h
    · exact .inl (.inr h)
/-- only new objects -/
def Grow (H H' : Hp) : Prop := ∀ b o, H b = some o → H' b = some o
theorem Grow.rfl : Grow H H := fun _ _ h => h
theorem Grow.trans (s : Grow H H1) (t : Grow H1 H') : Grow H H' := fun b o h => t b o (s b o h)
theorem Grow.keeps {O : AS} (g : Grow H H') : Keeps H O H' O := fun b o h n => ⟨g b o h, n⟩
theorem Grow.upd {o : HO} (n : H a = none) : Grow H (upd H a o) := fun b u h => by rw [upd_ne (ne_of_none h n)]; exact h
theorem Grow.stp (g : Grow H H') : Stp ρ σ H ρ σ H' := ⟨fun b o h _ => g b o h, fun b o h => ⟨o, g b o h⟩, fun _ _ _ h => h⟩
theorem R.grow (r : R c E ρ σ H) (g : Grow H H') : R c E ρ σ H' :=
  ⟨r.len, fun i d h => let ⟨v, h1, h2⟩ := r.val i d h; ⟨v, h1, h2.mono g.keeps⟩,
   fun i d h => let ⟨a, h1, h2, h3⟩ := r.own i d h; ⟨a, h1, h2.mono g.keeps (g a), h3⟩, r.inj,
   fun b h => let ⟨o, h1⟩ := r.eal b h; ⟨o, g b o h1⟩, fun b o h => let ⟨o', h1⟩ := r.al b o h; ⟨o', g b o' h1⟩, r.prt⟩
theorem R.own_there (r : R c E ρ σ H) {b : Addr} (h : OwnS ρ σ b) : ∃ o, H b = some o := by
  obtain ⟨i, d, h1, h2⟩ := h
  obtain ⟨a, h3, h4, _⟩ := r.own i d h1
  rw [h2] at h3
  cases h3
  exact h4.there
/-- a new address is avoided -/
theorem R.add {H' : Hp} {o : HO} (r : R c E ρ σ H) (n : H a = none) (g : Grow H H') (h : H' a = some o) : R c (Add E a) ρ σ H' := by
  have k : Keeps H (OE ρ σ E) H' (OE ρ σ (Add E a)) := by rw [OE_add]; exact (Keeps.add n).trans g.keeps
  refine ⟨r.len, fun i d q => let ⟨v, h1, h2⟩ := r.val i d q; ⟨v, h1, h2.mono k⟩, fun i d q => ?_, r.inj, fun b q => ?_, fun b o h => let ⟨o', h1⟩ := r.al b o h; ⟨o', g b o' h1⟩, r.prt⟩
  · obtain ⟨x, h1, h2, h3, h4⟩ := r.own i d q
    refine ⟨x, h1, h2.mono k (g x), fun z => z.elim h3 fun e => ?_, h4⟩
    obtain ⟨u, hu⟩ := h2.there
    rw [e, n] at hu
    cases hu
  · rcases q with q | q
    · exact let ⟨o, h1⟩ := r.eal b q; ⟨o, g b o h1⟩
    · exact ⟨o, by rw [q]; exact h⟩
/-- less is avoided -/
theorem R.drop (r : R c (Add E a) ρ σ H) : R c E ρ σ H := by
  have k : Keeps H (OE ρ σ (Add E a)) H (OE ρ σ E) := fun b o h n => ⟨h, fun q => n (q.elim (fun q => .inl (.inl q)) .inr)⟩
  exact ⟨r.len, fun i d q => let ⟨v, h1, h2⟩ := r.val i d q; ⟨v, h1, h2.mono k⟩,
    fun i d q => let ⟨x, h1, h2, h3, h4⟩ := r.own i d q; ⟨x, h1, h2.mono k (fun _ h => h), fun z => h3 (.inl z), h4⟩, r.inj, fun b q => r.eal b (.inl q), r.al, r.prt⟩
theorem R.own_not (r : R c E ρ σ H) {b : Addr} (h : OwnS ρ σ b) : ¬ E b := by
  obtain ⟨i, d, h1, h2⟩ := h
  obtain ⟨x, h3, _, h4, _⟩ := r.own i d h1
  rw [h2] at h3
  cases h3
  exact h4
/-- an own slot is let go: its list is never changed again -/
theorem R.freeze {i : Nat} (r : R c E ρ σ H) (h : ρ[i]? = some (some (.o d))) : R c E (ρ.set i (some (.v d))) σ H ∧ Stp ρ σ H (ρ.set i (some (.v d))) σ H ∧ ∃ v, σ[i]? = some (some v) ∧ Rep c.K H (OE (ρ.set i (some (.v d))) σ E) d v := by
  have hi : i < ρ.length := (List.getElem?_eq_some_iff.mp h).1
  obtain ⟨a, h1, h2, h3, h4⟩ := r.own i d h
  have sub : ∀ (j : Nat) (e : D), (ρ.set i (some (.v d)))[j]? = some (some (.o e)) → ρ[j]? = some (some (.o e)) ∧ j ≠ i := fun j e q => by
    by_cases hj : j = i
    · subst hj
      rw [List.getElem?_set_self hi] at q
      cases q
    · rw [List.getElem?_set_ne (Ne.symm hj)] at q
      exact ⟨q, hj⟩
  have osub : ∀ b, OwnS (ρ.set i (some (.v d))) σ b → OwnS ρ σ b := fun b ⟨j, e, q1, q2⟩ => ⟨j, e, (sub j e q1).1, q2⟩
  have k : Keeps H (OE ρ σ E) H (OE (ρ.set i (some (.v d))) σ E) := fun b o q n => ⟨q, fun z => n (z.elim .inl fun z => .inr (osub b z))⟩
  have na : ¬ OE (ρ.set i (some (.v d))) σ E a := by
    rintro (z | ⟨j, e, q1, q2⟩)
    · exact h3 z
    · obtain ⟨q1, q3⟩ := sub j e q1
      exact q3 (r.inj j i e d a q1 h q2 h1)
  have rp : Rep c.K H (OE (ρ.set i (some (.v d))) σ E) d (.ref a) := h2.rep k na
  refine ⟨⟨by rw [List.length_set]; exact r.len, fun j e q => ?_, fun j e q => ?_, fun j l e f x q1 q2 => ?_, r.eal, r.al, r.prt⟩, ⟨fun _ _ h _ => h, fun _ _ h => ⟨_, h⟩, fun b _ _ q => osub b q⟩, _, h1, rp⟩
  · by_cases hj : j = i
    · subst hj
      rw [List.getElem?_set_self hi] at q
      cases q
      exact ⟨_, h1, rp⟩
    · rw [List.getElem?_set_ne (Ne.symm hj)] at q
      exact let ⟨v, h1, h2⟩ := r.val j e q; ⟨v, h1, h2.mono k⟩
  · obtain ⟨q, _⟩ := sub j e q
    exact let ⟨x, h1, h2, h3⟩ := r.own j e q; ⟨x, h1, h2.mono k (fun _ h => h), h3⟩
  · exact r.inj j l e f x (sub _ _ q1).1 (sub _ _ q2).1
end

/-! ## readings -/
abbrev ME := Rho → Option (RV × Rho)
abbrev MB := Rho → Option (Bool × Rho)
inductive Op where
  | sl (i : Nat)
  | tv (d : D)
abbrev MO := Rho → Option (Op × Rho)
abbrev MOs := Rho → Option (List Op × Rho)
def slot (ρ : Rho) (i : Nat) : Option D :=
  match ρ[i]? with
  | some (some r) => some r.d
  | _ => none
def Op.get (ρ : Rho) : Op → Option D
  | .tv d => some d
  | .sl i => slot ρ i
def getAll (ρ : Rho) : List Op → Option (List D)
  | [] => some []
  | p :: ps => match p.get ρ, getAll ρ ps with
    | some d, some ds => some (d :: ds)
    | _, _ => none
def PostV (c : Cn) (E : AS) (ρ : Rho) (σ : St) (H : Hp) (ρ' : Rho) (H' : Hp) (d : D) (z : V) : Prop := Stp ρ σ H ρ' σ H' ∧ R c E ρ' σ H' ∧ Rep c.K H' (OE ρ' σ E) d z
def PostE (c : Cn) (E : AS) (ρ : Rho) (σ : St) (H : Hp) (ρ' : Rho) (H' : Hp) (rv : RV) (z : V) : Prop :=
  match rv with
  | .v d => PostV c E ρ σ H ρ' H' d z
  | .o d => ∃ a, z = .ref a ∧ Stp ρ σ H ρ' σ H' ∧ H a = none ∧ R c (Add E a) ρ' σ H' ∧ OwnAt c.K H' (OE ρ' σ (Add E a)) d a
theorem PostE.pv {c : Cn} {E : AS} {ρ ρ' : Rho} {σ : St} {H H' : Hp} {rv : RV} {z : V} (he : R c E ρ σ H) (h : PostE c E ρ σ H ρ' H' rv z) : PostV c E ρ σ H ρ' H' rv.d z := by
  cases rv with
  | v d => exact h
  | o d =>
    obtain ⟨a, rfl, s, n, r, o⟩ := h
    refine ⟨s, r.drop, o.rep (O := OE ρ' σ (Add E a)) (fun b o h q => ⟨h, fun z => q (z.elim (fun z => .inl (.inl z)) .inr)⟩) fun z => ?_⟩
    rcases z with z | z
    · obtain ⟨u, hu⟩ := he.eal a z
      rw [n] at hu; cases hu
    · exact r.own_not z (.inr rfl)
def PostOp (c : Cn) (E : AS) (ρ : Rho) (σ : St) (H : Hp) (ρ' : Rho) (H' : Hp) (p : Op) (z : V) : Prop :=
  Stp ρ σ H ρ' σ H' ∧ R c E ρ' σ H' ∧ match p with
    | .tv d => Rep c.K H' (OE ρ' σ E) d z
    | .sl i => σ[i]? = some (some z)
def OpsAt (c : Cn) (E : AS) (ρ' : Rho) (σ : St) (H' : Hp) : List Op → List V → Prop
  | [], [] => True
  | p :: ps, z :: zs => (match p with
    | .tv d => Rep c.K H' (OE ρ' σ E) d z
    | .sl i => σ[i]? = some (some z)) ∧ OpsAt c E ρ' σ H' ps zs
  | _, _ => False
def tE (X : Cx) (f : ME) : TE := fun σ H Q => ∃ c E ρ rv ρ', c.K = X.K ∧ R c E ρ σ H ∧ f ρ = some (rv, ρ') ∧ ∀ z H', PostE c E ρ σ H ρ' H' rv z → Q z H'
def tOpd (X : Cx) (f : MO) : TE := fun σ H Q => ∃ c E ρ p ρ', c.K = X.K ∧ R c E ρ σ H ∧ f ρ = some (p, ρ') ∧ ∀ z H', PostOp c E ρ σ H ρ' H' p z → Q z H'
def tOps (X : Cx) (f : MOs) : TA := fun σ H Q => ∃ c E ρ ps ρ', c.K = X.K ∧ R c E ρ σ H ∧ f ρ = some (ps, ρ') ∧ ∀ zs H', Stp ρ σ H ρ' σ H' ∧ R c E ρ' σ H' ∧ OpsAt c E ρ' σ H' ps zs → Q zs H'
def tT (X : Cx) (f : MB) : TT := fun σ H Q => ∃ c E ρ b ρ', c.K = X.K ∧ R c E ρ σ H ∧ f ρ = some (b, ρ') ∧ ∀ H', Stp ρ σ H ρ' σ H' ∧ R c E ρ' σ H' → Q b H'
def Tops (K : PySem.W.Frag) (H : Hp) (O : AS) : List D → List V → Prop
  | [], [] => True
  | d :: ds, z :: zs => Top K H O d z ∧ Tops K H O ds zs
  | _, _ => False
section
variable {c : Cn} {E : AS} {ρ ρ1 ρ' : Rho} {σ σ1 σ' : St} {H H1 H' : Hp} {d : D} {v z : V} {a : Addr}
theorem R.top {i : Nat} (r : R c E ρ σ H) (h : slot ρ i = some d) (hz : σ[i]? = some (some z)) : Top c.K H (OE ρ σ E) d z := by
  unfold slot at h
  split at h
  · rename_i rv q
    cases h
    cases rv with
    | v d =>
      obtain ⟨v, h1, h2⟩ := r.val i d q
      rw [hz] at h1; cases h1
      exact .inl h2
    | o d =>
      obtain ⟨x, h1, h2, _⟩ := r.own i d q
      rw [hz] at h1; cases h1
      exact .inr ⟨x, rfl, h2⟩
  · cases h
theorem PostOp.top {p : Op} {ρ2 : Rho} {H2 : Hp} (h : PostOp c E ρ σ H ρ1 H1 p z) (s : Stp ρ1 σ H1 ρ2 σ H2) (r : R c E ρ2 σ H2) (g : p.get ρ2 = some d) : Top c.K H2 (OE ρ2 σ E) d z := by
  obtain ⟨_, _, q⟩ := h
  cases p with
  | tv e => cases g; exact .inl (Rep.mono s.keeps q)
  | sl i => exact r.top g q
theorem OpsAt.mono {ρ2 : Rho} {H2 : Hp} (s : Stp ρ1 σ H1 ρ2 σ H2) : ∀ {ps : List Op} {zs : List V}, OpsAt c E ρ1 σ H1 ps zs → OpsAt c E ρ2 σ H2 ps zs
  | [], [], _ => True.intro
  | .tv _ :: _, _ :: _, h => ⟨Rep.mono s.keeps h.1, OpsAt.mono s h.2⟩
  | .sl _ :: _, _ :: _, h => ⟨h.1, OpsAt.mono s h.2⟩
  | [], _ :: _, h => h.elim
  | _ :: _, [], h => h.elim
theorem OpsAt.tops (r : R c E ρ σ H) : ∀ {ps : List Op} {zs : List V} {ds : List D}, OpsAt c E ρ σ H ps zs → getAll ρ ps = some ds → Tops c.K H (OE ρ σ E) ds zs
  | [], [], ds, _, g => by cases g; exact True.intro
  | p :: ps, z :: zs, ds, h, g => by
    unfold getAll at g
    split at g
    · rename_i d es e1 e2
      cases g
      refine ⟨?_, OpsAt.tops r h.2 e2⟩
      cases p with
      | tv e => cases e1; exact .inl h.1
      | sl i => exact r.top e1 h.1
    · cases g
  | [], _ :: _, _, h, _ => h.elim
  | _ :: _, [], _, h, _ => h.elim
end
end Z
namespace Z
open PySem PySem.Spec L2
open PyProof.Rows hiding St

/-! ## operators on data -/
def szb (n : Nat) : Bool := decide (n ≤ 16777216)
theorem szb_ok {n : Nat} (h : szb n = true) : n ≤ sizeLine := by rw [sizeLine_eq]; exact of_decide_eq_true h
/-- data that == can compare here -/
def okE (d : D) : Bool := noDict d && decide (d.depth ≤ 60)
def addD : D → D → Option RV
  | .int i, .int j => some (.v (.int (i + j)))
  | .str i, .str j => if szb (i.length + j.length) then some (.v (.str (i ++ j))) else none
  | .list xs, .list ys => if szb (xs.length + ys.length) then some (.o (.list (xs ++ ys))) else none
  | .tuple xs, .tuple ys => if szb (xs.length + ys.length) then some (.v (.tuple (xs ++ ys))) else none
  | _, _ => none
def subD : D → D → Option RV
  | .int i, .int j => some (.v (.int (i - j)))
  | _, _ => none
def in64 (i : Int) : Bool := decide (i.natAbs < 18446744073709551616)
def repS (n : Nat) (x : Str) : Str := ⟨(List.replicate n x.cps).foldl (· ++ ·) #[]⟩
def mulD : D → D → Option RV
  | .int i, .int j => if in64 i || in64 j then some (.v (.int (i * j))) else none
  | .tuple xs, .int k => if decide (2 ≤ k) && decide (k ≤ 1000) && decide (xs.length ≤ 1000) then some (.v (.tuple (List.replicate k.toNat xs).flatten)) else none
  | .list xs, .int k => if decide (0 ≤ k) && decide (k ≤ 1000) && decide (xs.length ≤ 1000) then some (.o (.list (List.replicate k.toNat xs).flatten)) else none
  | .str x, .int k => if decide (2 ≤ k) && decide (k ≤ 1000) && decide (1 ≤ x.length) && decide (x.length ≤ 1000) then some (.v (.str (repS k.toNat x))) else none
  | _, _ => none
def fdivD : D → D → Option RV
  | .int i, .int j => if decide (0 < j) && decide (j < 1073741824) then some (.v (.int (i / j))) else none
  | _, _ => none
def modD : D → D → Option RV
  | .int i, .int j => if decide (0 < j) then some (.v (.int (i % j))) else none
  | _, _ => none
def powD : D → D → Option RV
  | .int i, .int j => if decide (0 ≤ j) && decide (j ≤ 1000000) && in64 i then some (.v (.int (i ^ j.toNat))) else none
  | _, _ => none
def negD : D → Option RV
  | .int i => some (.v (.int (-i)))
  | _ => none
def bl (b : Bool) : Option RV := some (.v (.bool b))
/-- data that stand in one order -/
def cmpOk (d e : D) : Bool := okE d && okE e && PySem.W.alike d e && match d with
  | .none => false
  | _ => true
def ltD : D → D → Option RV
  | .int i, .int j => bl (decide (i < j))
  | .str i, .str j => bl (decide (i.cps.toList < j.cps.toList))
  | d, e => if cmpOk d e then bl (PySem.W.dataLt d e) else none
def leD : D → D → Option RV
  | .int i, .int j => bl (decide (i ≤ j))
  | d, e => if cmpOk d e then bl (!PySem.W.dataLt e d) else none
def gtD : D → D → Option RV
  | .int i, .int j => bl (decide (j < i))
  | d, e => if cmpOk d e then bl (PySem.W.dataLt e d) else none
def geD : D → D → Option RV
  | .int i, .int j => bl (decide (j ≤ i))
  | d, e => if cmpOk d e then bl (!PySem.W.dataLt d e) else none
def eqD (d e : D) : Option RV := if okE d && okE e then bl (PyData.eqv d e) else match d, e with
  | .tuple ds, .tuple [] => bl ds.isEmpty
  | _, _ => none
def neD (d e : D) : Option RV := if okE d && okE e then bl (!PyData.eqv d e) else none
/-- keys of dicts: ints and texts -/
def dEq : D → D → Bool
  | .int i, .int j => decide (i = j)
  | .str a, .str b => decide (a = b)
  | _, _ => false
def getK (ds : List (D × D)) (k : D) : Option D := (ds.find? fun p => dEq p.1 k).map (·.2)
def setK (ds : List (D × D)) (k v : D) : List (D × D) := if ds.any (fun p => dEq p.1 k) then ds.map (fun p => if dEq p.1 k then (p.1, v) else p) else ds ++ [(k, v)]
def isKD : D → Bool
  | .int _ => true
  | .str _ => true
  | _ => false
def signIn (c : Nat) (z : Str) : Bool := decide (c ∈ z.cps.toList)
def inD : D → D → Option RV
  | x, .list ys => if okE x && noDicts ys then bl (ys.any fun y => PyData.eqv y x) else none
  | x, .tuple ys => if okE x && noDicts ys then bl (ys.any fun y => PyData.eqv y x) else none
  | .str x, .str z => match x.cps.toList with
    | [c] => bl (signIn c z)
    | _ => none
  | x, .dict ds => if isKD x then bl (getK ds x).isSome else none
  | _, _ => none
def notInD (x y : D) : Option RV := match inD x y with
  | some (.v (.bool b)) => bl (!b)
  | _ => none
def isN : D → Bool
  | .none => true
  | _ => false
def isD : D → D → Option RV
  | d, .none => bl (isN d)
  | .bool a, .bool b => bl (decide (a = b))
  | _, _ => none
def isNotD (x y : D) : Option RV := match isD x y with
  | some (.v (.bool b)) => bl (!b)
  | _ => none
def atL (xs : List D) (i : Int) : Option D := atI xs i
def ixD : D → D → Option RV
  | .list xs, .int i => (atI xs i).map .v
  | .tuple xs, .int i => (atI xs i).map .v
  | .str z, .int i => if szb z.length then (atI z.cps.toList i).map fun c => .v (.str ⟨#[c]⟩) else none
  | .dict ds, x => if isKD x then (getK ds x).map .v else none
  | _, _ => none

/-! ## the rules by values -/
def ResB (K : PySem.W.Frag) (H : Hp) (O : AS) (rv : RV) (H' : Hp) (z : V) : Prop :=
  Grow H H' ∧ match rv with
    | .v d => Rep K H' O d z
    | .o d => ∃ a, z = .ref a ∧ H a = none ∧ OwnAt K H' (Add O a) d a
def rD2 (K : PySem.W.Frag) (f : D → D → Option RV) : R2 := fun x y H Q => ∃ (O : AS) (d e : D) (rv : RV), (∀ b, O b → ∃ o, H b = some o) ∧ Top K H O d x ∧ Top K H O e y ∧ f d e = some rv ∧ ∀ z H', ResB K H O rv H' z → Q z H'
def rD1 (K : PySem.W.Frag) (f : D → Option RV) : V → Hp → VK → Prop := fun x H Q => ∃ (O : AS) (d : D) (rv : RV), (∀ b, O b → ∃ o, H b = some o) ∧ Top K H O d x ∧ f d = some rv ∧ ∀ z H', ResB K H O rv H' z → Q z H'
def rDs (K : PySem.W.Frag) (f : List D → Option RV) : List V → Hp → VK → Prop := fun xs H Q => ∃ (O : AS) (ds : List D) (rv : RV), (∀ b, O b → ∃ o, H b = some o) ∧ Tops K H O ds xs ∧ f ds = some rv ∧ ∀ z H', ResB K H O rv H' z → Q z H'
theorem strOk_iff {x : Str} : PyData.strOk x = true ↔ ∀ c ∈ x.cps.toList, c < 0x110000 := by
  unfold PyData.strOk
  rw [← Array.all_toList, List.all_eq_true]
  simp only [decide_eq_true_eq]
theorem strOk_app {x y : Str} (h : PyData.strOk x = true) (g : PyData.strOk y = true) : PyData.strOk (x ++ y) = true := by
  rw [strOk_iff] at *
  intro c hc
  have e : (x ++ y).cps.toList = x.cps.toList ++ y.cps.toList := by
    show (x.cps ++ y.cps).toList = _
    simp
  rw [e] at hc
  rcases List.mem_append.mp hc with q | q
  · exact h c q
  · exact g c q
theorem strOk_one {x : Str} {c : Nat} (h : PyData.strOk x = true) (m : c ∈ x.cps.toList) : PyData.strOk ⟨#[c]⟩ = true := by
  rw [strOk_iff] at *
  intro b hb
  have e : b = c := by simpa using hb
  rw [e]; exact h c m

theorem dEq_kD (a b : L2.Key) : dEq (kD a) (kD b) = decide (a = b) := by
  cases a <;> cases b <;> simp [dEq, kD]
theorem isKD_ok {d : D} (h : isKD d = true) : ∃ k : L2.Key, d = kD k := by
  cases d <;> first
    | exact ⟨.inl _, rfl⟩
    | exact ⟨.inr _, rfl⟩
    | cases h
theorem getK_ok {K : PySem.W.Frag} {H : Hp} {O : AS} {k : L2.Key} : ∀ {ds : List (D × D)} {kvs : List (L2.Key × V)}, RepK K H O ds kvs → (getK ds (kD k) = none ∧ valV kvs k = none) ∨ ∃ d v, getK ds (kD k) = some d ∧ valV kvs k = some v ∧ Rep K H O d v
  | _, _, .nil => .inl ⟨rfl, rfl⟩
  | _, _, .cons (k := k0) (d := d) (v := v) r t => by
    by_cases e : k0 = k
    · refine .inr ⟨d, v, ?_, valV_pos e, r⟩
      unfold getK
      rw [List.find?_cons, dEq_kD, decide_eq_true e]; rfl
    · have e1 : ∀ ds : List (D × D), getK ((kD k0, d) :: ds) (kD k) = getK ds (kD k) := fun ds => by
        unfold getK
        rw [List.find?_cons, dEq_kD, decide_eq_false e]
      rw [e1, valV_neg e]
      exact getK_ok t
theorem setK_ok {K : PySem.W.Frag} {H : Hp} {O : AS} {k : L2.Key} {d : D} {v : V} (r : Rep K H O d v) {ds : List (D × D)} {kvs : List (L2.Key × V)} (h : RepK K H O ds kvs) : RepK K H O (setK ds (kD k) d) (putK kvs k v) := by
  have e1 : ∀ {ds : List (D × D)} {kvs : List (L2.Key × V)}, RepK K H O ds kvs → ds.any (fun p => dEq p.1 (kD k)) = kvs.any fun kv => decide (kv.1 = k) := by
    intro ds
    induction ds with
    | nil => intro kvs h; cases h; rfl
    | cons p ds ih =>
      intro kvs h
      cases h with
      | cons r t => rw [List.any_cons, List.any_cons, dEq_kD, ih t]
  have e2 : ∀ {ds : List (D × D)} {kvs : List (L2.Key × V)}, RepK K H O ds kvs → RepK K H O (ds.map (fun p => if dEq p.1 (kD k) then (p.1, d) else p)) (kvs.map (fun kv => if kv.1 = k then (kv.1, v) else kv)) := by
    intro ds
    induction ds with
    | nil => intro kvs h; cases h; exact .nil
    | cons p ds ih =>
      intro kvs h
      cases h with
      | cons r2 t =>
        rw [List.map_cons, List.map_cons, dEq_kD]
        rename_i k0 _ _ _
        by_cases e : k0 = k
        · simp only [decide_eq_true e, if_true, e]
          exact .cons r (ih t)
        · simp only [decide_eq_false e, if_neg e]
          exact .cons r2 (ih t)
  have e3 : ∀ {ds : List (D × D)} {kvs : List (L2.Key × V)}, RepK K H O ds kvs → RepK K H O (ds ++ [(kD k, d)]) (kvs ++ [(k, v)]) := by
    intro ds
    induction ds with
    | nil => intro kvs h; cases h; exact .cons r .nil
    | cons p ds ih =>
      intro kvs h
      cases h with
      | cons r2 t => exact .cons r2 (ih t)
  unfold setK putK
  rw [e1 h]
  split
  · exact e2 h
  · exact e3 h
section
variable {X : Cx}
theorem resV {K : PySem.W.Frag} {H : Hp} {O : AS} {d : D} {z : V} (r : Rep K H O d z) : ResB K H O (.v d) H z := ⟨Grow.rfl, r⟩
theorem resBl {K : PySem.W.Frag} {H : Hp} {O : AS} {b : Bool} : ResB K H O (.v (.bool b)) H (.bl b) := resV (.bl b)
theorem resTup {K : PySem.W.Frag} {H : Hp} {O : AS} {ds : List D} {vs : List V} {p : Addr} (hO : ∀ b, O b → ∃ o, H b = some o) (r : Reps K H O ds vs) (n : H p = none) : ResB K H O (.v (.tuple ds)) (upd H p (.tup vs)) (.ref p) :=
  ⟨Grow.upd n, .tup (.inl ⟨.inl upd_same, fun z => by obtain ⟨o, e⟩ := hO p z; rw [n] at e; cases e⟩) (r.mono (Grow.keeps (Grow.upd n)))⟩
theorem resLst {K : PySem.W.Frag} {H : Hp} {O : AS} {ds : List D} {vs : List V} {p : Addr} (r : Reps K H O ds vs) (n : H p = none) : ResB K H O (.o (.list ds)) (upd H p (.lst vs)) (.ref p) :=
  ⟨Grow.upd n, p, rfl, n, vs, upd_same, r.mono ((Keeps.add n).trans (Grow.keeps (Grow.upd n)))⟩
theorem od_add : OpR X (binaryOp .Add) (rD2 X.K addD) := by
  intro pins s σ H x y v u Q I rx ry h
  obtain ⟨O, d, e, rv, hO, td, te, hf, q⟩ := h
  unfold addD at hf
  split at hf
  · rename_i i j
    cases td.int; cases te.int; cases hf
    exact op_add pins s σ H _ _ v u Q I rx ry ⟨i, j, rfl, rfl, q _ H (resV (.int _))⟩
  · rename_i i j
    split at hf
    · rename_i hz
      have s1 := td.strOk
      have s2 := te.strOk
      cases td.str; cases te.str; cases hf
      exact op_add_str pins s σ H _ _ v u Q I rx ry ⟨i, j, rfl, rfl, szb_ok hz, q _ H (resV (.str _ (strOk_app s1 s2)))⟩
    · cases hf
  · rename_i xs ys
    split at hf
    · rename_i hz
      cases hf
      obtain ⟨a, vs, rfl, ha, ra⟩ := td.list
      obtain ⟨b, ws, rfl, hb, rb⟩ := te.list
      cases rx; cases ry
      obtain ⟨its, r1, p1, z1⟩ := I.list ha
      obtain ⟨its2, r2, p2, z2⟩ := I.list hb
      obtain ⟨⟨c1, e1, d1, sl1⟩, n1, h1, h2, h3, h4⟩ := p1
      obtain ⟨⟨c2, e2, d2, sl2⟩, n2, g1, g2, g3, g4⟩ := p2
      simp only at h2 h3 h4 g2 g3 g4
      subst h2 h3 h4 g2 g3 g4
      have hl := Reps.length ra
      have hm := Reps.length rb
      have hz' := szb_ok hz
      have l1 := r1.length
      have l2 := r2.length
      refine concat_meets ⟨_, h1, rfl⟩ ⟨_, g1, rfl⟩ noFill_list_add seq_list_add PySem.F.slot_list_add PySem.F.entry_list_add (PySem.F.args_list_add_2 _ _)
        (list_addW a b its.toArray its2.toArray n1 n2 none none sl1 sl2 (by rw [List.size_toArray, List.size_toArray]; omega)) ⟨h1, g1, ?_⟩
      have ee : its.toArray ++ its2.toArray = (its ++ its2).toArray := by simp
      rw [ee]
      exact ⟨.ref _, _, I.lnew (t' := s.toks) (r1.append r2) (by rw [List.length_append]; omega), rfl, q _ _ (resLst (ra.append rb) I.fresh)⟩
    · cases hf
  · rename_i xs ys
    split at hf
    · rename_i hz
      cases hf
      obtain ⟨a, vs, rfl, ha, ra⟩ := td.tuple
      obtain ⟨b, ws, rfl, hb, rb⟩ := te.tuple
      have hl := Reps.length ra
      have hm := Reps.length rb
      refine op_catA pins s σ H _ _ v u Q I rx ry ⟨a, b, vs, ws, rfl, rfl, ha, hb, by have := szb_ok hz; omega, fun e => ?_, fun _ e => ?_, fun _ _ p np => q _ _ (resTup hO (ra.append rb) np)⟩
      · subst e
        cases ra
        refine q _ _ (resV ?_)
        rcases te with t | ⟨_, _, t⟩
        · exact t
        · exact t.elim
      · subst e
        cases rb
        refine q _ _ (resV ?_)
        rw [List.append_nil]
        rcases td with t | ⟨_, _, t⟩
        · exact t
        · exact t.elim
    · cases hf
  · cases hf
theorem od_sub : OpR X (binaryOp .Sub) (rD2 X.K subD) := by
  intro pins s σ H x y v u Q I rx ry ⟨O, d, e, rv, hO, td, te, hf, q⟩
  unfold subD at hf
  split at hf
  · rename_i i j
    cases td.int; cases te.int; cases hf
    exact op_sub pins s σ H _ _ v u Q I rx ry ⟨i, j, rfl, rfl, q _ H (resV (.int _))⟩
  · cases hf
theorem in64_ok {i : Int} (h : in64 i = true) : -(2 ^ 64) < i ∧ i < 2 ^ 64 := by
  have h : i.natAbs < 18446744073709551616 := of_decide_eq_true h
  constructor <;> omega
theorem tuple_mul0W (l : Addr) (n : Nat) (dd : Option Addr) (sl : Array (Option Value)) (x : Int) (u : Tok) (c0 : (decide (x < -(2 ^ 63)) || decide (x ≥ 2 ^ 63)) = false) :
    Meets (Builtin.«tuple.__mul__» ⟨[.ref l, .int x u], []⟩) (fun _ R s => s.heap.get? l = some { cls := .type "tuple", dict := dd, data := .seq #[] n, slots := sl } ∧
      R (.ok (.ret (Value.ref l))) s) :=
  .of_wp fun prog w A R s h => by
    obtain ⟨hp, g, d, tk, os⟩ := s
    obtain ⟨hl, h⟩ := h
    have f1 := AutoSeq1.idx_int
    wp_walk using wpAny_loadPart' hl
    refine wpAny_ite_false (decide_eq_false (by rw [c0]; exact Bool.false_ne_true)) ?_; wp_walk using wpAny_loadPart' hl
    exact ⟨_, rfl, h⟩
theorem op_repT0 : OpR X (binaryOp .Mult) (fun x y H Q => ∃ l k, x = .ref l ∧ y = .int k ∧ SqT X.K H l [] ∧ 2 ≤ k ∧ k ≤ 1000 ∧ Q (.ref l) H) := by
  intro pins s σ H x y v u Q I rx ry h
  obtain ⟨l, k, rfl, rfl, hT, h1, h2, q⟩ := h
  cases rx
  obtain ⟨t, rfl⟩ := ry
  obtain ⟨its, r, ⟨⟨cls, dd, data, sl⟩, ho, hc, n, hd⟩, hs⟩ := I.tuple hT
  simp only at hc hd
  subst hc hd
  cases r
  have c0 : (decide (k < -(2 ^ 63)) || decide (k ≥ 2 ^ 63)) = false := by
    rw [decide_eq_false (by omega), decide_eq_false (by omega)] <;> rfl
  exact wpAny_binaryOp_repeat_ref (T := "tuple") (U := "int") (by decide) ⟨_, ho, rfl⟩ (fun s' => typeIs_int s' k t) noFill_tuple_mul F.fills_int_mul F.slot_int_rmul repeat_tuple F.slot_int_index.lookup
    (call_meets F.slot_int_rmul (typeIs_int s k t) F.entry_int_rmul (F.args_int_rmul_2 _ _) (int_rmul_tuple k t l _ n dd sl)
      ⟨ho, rfl, ⟨_, ho, rfl⟩, call_meets F.slot_tuple_mul ⟨_, ho, rfl⟩ F.entry_tuple_mul (F.args_tuple_mul_2 _ _) (tuple_mul0W l n dd sl k t c0) ⟨ho, ⟨.ref l, H, I, rfl, q⟩⟩⟩)
theorem reps_rep {K : PySem.W.Frag} {H : Hp} {O : AS} {ds : List D} {vs : List V} (r : Reps K H O ds vs) : ∀ m : Nat, Reps K H O (List.replicate m ds).flatten (List.replicate m vs).flatten
  | 0 => .nil
  | m + 1 => by
    rw [List.replicate_succ, List.replicate_succ, List.flatten_cons, List.flatten_cons]
    exact r.append (reps_rep r m)
theorem int_rmul_listW (a : Int) (t : Tok) (l : Addr) (items : Array Value) (n : Nat) (dd : Option Addr) (sl : Array (Option Value)) :
    Meets (Builtin.«int.__rmul__» ⟨[.int a t, .ref l], []⟩) (fun _ R s => s.heap.get? l = some { cls := .type "list", dict := dd, data := .seq items n, slots := sl } ∧ R (.ok (.ret Value.notImplemented)) s) :=
  .of_wp fun prog w A R s h => by obtain ⟨hp, g, d, tk, os⟩ := s; obtain ⟨hl, h⟩ := h; wp_walk using wpAny_loadPart' hl; exact ⟨_, rfl, h⟩
theorem list_mulW (l : Addr) (items : Array Value) (n : Nat) (dd : Option Addr) (sl : Array (Option Value)) (x : Int) (u : Tok) (hc0 : ¬(!Builtin.List.listFitsIndex x) = true) (hc1 : ¬items.size * x.toNat > (2 ^ 63 - 1) / 8) (hc2 : ¬Builtin.List.listTooLong (items.size * x.toNat) = true) :
    Meets (Builtin.«list.__mul__» ⟨[.ref l, .int x u], []⟩) (fun _ R s => s.heap.get? l = some { cls := .type "list", dict := dd, data := .seq items n, slots := sl } ∧
      R (.ok (.ret (Value.ref s.heap.objs.size))) { s with heap := s.heap.push { cls := Value.type "list", data := Data.seq (List.foldl (fun x1 x2 => x1 ++ x2) #[] (List.replicate (if items.isEmpty = true then 0 else x.toNat) items)) }, toks := s.toks }) :=
  .of_wp fun prog w A R s h => by
    obtain ⟨hp, g, d, tk, os⟩ := s
    obtain ⟨hl, h⟩ := h
    have f1 := AutoSeq1.idx_int
    have hsz := PySem.AutoListH.joined_fits hc2
    wp_walk using wpAny_loadPart' hl
    refine wpAny_ite_false (decide_eq_false (Nat.not_lt.mpr hsz)) ?_
    wp_walk using wpAny_loadPart' hl
    exact ⟨_, rfl, h⟩
theorem repS_len (n : Nat) (x : Str) : (repS n x).length = n * x.length := by
  have e : ∀ (m : Nat) (a : Array Nat), ((List.replicate m x.cps).foldl (· ++ ·) a).size = a.size + m * x.cps.size := by
    intro m
    induction m with
    | zero => intro a; simp
    | succ m ih =>
      intro a
      rw [List.replicate_succ, List.foldl_cons, ih, Array.size_append, Nat.succ_mul]
      omega
  have := e n #[]
  rw [Array.size_empty, Nat.zero_add] at this
  exact this
theorem strOk_rep {x : Str} (h : PyData.strOk x = true) (n : Nat) : PyData.strOk (repS n x) = true := by
  rw [strOk_iff] at h ⊢
  have e : ∀ (m : Nat) (a : Array Nat), (∀ c ∈ a.toList, c < 0x110000) → ∀ c ∈ ((List.replicate m x.cps).foldl (· ++ ·) a).toList, c < 0x110000 := by
    intro m
    induction m with
    | zero => intro a ha; exact ha
    | succ m ih =>
      intro a ha
      rw [List.replicate_succ, List.foldl_cons]
      refine ih _ fun c hc => ?_
      rw [Array.toList_append] at hc
      rcases List.mem_append.mp hc with q | q
      · exact ha c q
      · exact h c q
  exact e n #[] fun c hc => by cases hc
theorem od_mul : OpR X (binaryOp .Mult) (rD2 X.K mulD) := by
  intro pins s σ H x y v u Q I rx ry ⟨O, d, e, rv, hO, td, te, hf, q⟩
  unfold mulD at hf
  split at hf
  · rename_i i j
    split at hf
    · rename_i hc
      cases td.int; cases te.int; cases hf
      refine op_mul pins s σ H _ _ v u Q I rx ry ⟨i, j, rfl, rfl, ?_, q _ H (resV (.int _))⟩
      rcases Bool.or_eq_true _ _ ▸ hc with hc | hc
      · exact .inl (in64_ok hc)
      · exact .inr (in64_ok hc)
    · cases hf
  · rename_i xs k
    split at hf
    · rename_i hc
      simp only [Bool.and_eq_true, decide_eq_true_eq] at hc
      obtain ⟨⟨h2, h3⟩, h4⟩ := hc
      cases te.int; cases hf
      obtain ⟨a, vs, rfl, ha, ra⟩ := td.tuple
      have hl := Reps.length ra
      cases xs with
      | nil =>
        cases ra
        refine op_repT0 pins s σ H _ _ v u Q I rx ry ⟨a, k, rfl, rfl, ha, h2, h3, q _ _ (resV ?_)⟩
        rw [show (List.replicate k.toNat ([] : List D)).flatten = [] from List.flatten_eq_nil_iff.mpr fun l hl => (List.eq_of_mem_replicate hl)]
        rcases td with t | ⟨_, _, t⟩
        · exact t
        · exact t.elim
      | cons x xs =>
        refine op_repT pins s σ H _ _ v u Q I rx ry ⟨a, k, vs, rfl, rfl, ha, fun e => ?_, h2, h3, by omega, fun p np => q _ _ (resTup hO (reps_rep ra k.toNat) np)⟩
        subst e
        cases hl
    · cases hf
  · rename_i xs k
    split at hf
    · rename_i hc
      simp only [Bool.and_eq_true, decide_eq_true_eq] at hc
      obtain ⟨⟨h2, h3⟩, h4⟩ := hc
      cases te.int; cases hf
      obtain ⟨a, vs, rfl, ha, ra⟩ := td.list
      have hl := Reps.length ra
      cases rx
      obtain ⟨t, rfl⟩ := ry
      obtain ⟨its, r1, p1, z1⟩ := I.list ha
      obtain ⟨⟨c1, e1, d1, sl1⟩, n1, ho, hc1, hc2, hc3⟩ := p1
      simp only at hc1 hc2 hc3
      subst hc1 hc2 hc3
      have l1 := r1.length
      have hz : its.length * k.toNat ≤ 1000 * 1000 := Nat.mul_le_mul (by omega) (by omega)
      have hz' : vs.length * k.toNat ≤ 1000 * 1000 := Nat.mul_le_mul (by omega) (by omega)
      have hcap : ¬ its.toArray.size * k.toNat > (2 ^ 63 - 1) / 8 := by rw [List.size_toArray]; omega
      have hfit : ¬ (!Builtin.List.listFitsIndex k) = true := by
        rw [fitsIndex_both (by omega) (by omega)]
        exact Bool.false_ne_true
      have hlong : ¬ Builtin.List.listTooLong (its.toArray.size * k.toNat) = true := by
        rw [notLongL (by rw [List.size_toArray, sizeLine_eq]; omega)]
        exact Bool.false_ne_true
      have hnew : List.foldl (fun x1 x2 => x1 ++ x2) #[] (List.replicate (if its.toArray.isEmpty = true then 0 else k.toNat) its.toArray) = (List.replicate k.toNat its).flatten.toArray := by
        have f0 : ∀ m : Nat, List.foldl (fun x1 x2 => x1 ++ x2) #[] (List.replicate m its.toArray) = (List.replicate m its).flatten.toArray := fun m => by
          have := foldl_rep its m []
          rw [List.nil_append] at this
          exact this
        rw [f0]
        cases its with
        | nil => simp
        | cons a r' => rw [if_neg (by simp)]
      refine wpAny_binaryOp_repeat_ref (T := "list") (U := "int") (by decide) ⟨_, ho, rfl⟩ (fun s' => typeIs_int s' k t) noFill_list_mul F.fills_int_mul F.slot_int_rmul repeat_list F.slot_int_index.lookup
        (call_meets F.slot_int_rmul (typeIs_int s k t) F.entry_int_rmul (F.args_int_rmul_2 _ _) (int_rmul_listW k t a its.toArray n1 none sl1)
          ⟨ho, rfl, ⟨_, ho, rfl⟩, call_meets F.slot_list_mul ⟨_, ho, rfl⟩ F.entry_list_mul (F.args_list_mul_2 _ _) (list_mulW a its.toArray n1 none sl1 k t hfit hcap hlong) ⟨ho, ?_⟩⟩)
      rw [hnew]
      exact ⟨.ref _, _, I.lnew (t' := s.toks) (r1.rep k.toNat) (by rw [PyProof.Rows.lm_len_rep_flat, Nat.mul_comm, sizeLine_eq]; omega), rfl, q _ _ (resLst (reps_rep ra k.toNat) I.fresh)⟩
    · cases hf
  · rename_i x k
    split at hf
    · rename_i hc
      simp only [Bool.and_eq_true, decide_eq_true_eq] at hc
      obtain ⟨⟨⟨h2, h3⟩, h4⟩, h5⟩ := hc
      have sk := td.strOk
      cases te.int; cases td.str; cases hf
      obtain ⟨t, rfl⟩ := rx
      obtain ⟨t', rfl⟩ := ry
      have c0 : (decide (k < -(2 ^ 63 : Int)) || decide (k ≥ 2 ^ 63)) = false := by
        rw [decide_eq_false (by omega), decide_eq_false (by omega)] <;> rfl
      have hk : (k == 1 || x.length == 0) = false := by
        rw [Bool.or_eq_false_iff]
        exact ⟨beq_false_of_ne (by omega), beq_false_of_ne (by omega)⟩
      refine PySem.P.mul_str c0 (fun _ _ => ?_) (fun _ _ => ?_) ?_
      · have hd : k ≤ 1000 := h3
        have a1 : (1000 : Int) * k ≤ 2 ^ 63 - 1 := by omega
        have a2 : (1000 : Int) ≤ (2 ^ 63 - 1) / k := Int.le_ediv_of_mul_le (by omega) a1
        omega
      · have hz : x.length * k.toNat ≤ 1000 * 1000 := Nat.mul_le_mul (by omega) (by omega)
        exact decide_eq_false (by rw [sizeLine_eq]; omega)
      · rw [if_neg (by omega), if_neg (by rw [hk]; exact Bool.false_ne_true)]
        have hz : k.toNat * x.length ≤ 1000 * 1000 := Nat.mul_le_mul (by omega) (by omega)
        refine ⟨?_, .str (repS k.toNat x), H, I.tok _, ⟨_, rfl⟩, q _ H (resV (.str _ (strOk_rep sk _)))⟩
        have := repS_len k.toNat x
        rw [sizeLine_eq]
        exact Nat.le_trans (Nat.le_of_eq this) (by omega)
    · cases hf
  · cases hf
theorem od_fdiv : OpR X (binaryOp .FloorDiv) (rD2 X.K fdivD) := by
  intro pins s σ H x y v u Q I rx ry ⟨O, d, e, rv, hO, td, te, hf, q⟩
  unfold fdivD at hf
  split at hf
  · rename_i i j
    split at hf
    · rename_i hc
      simp only [Bool.and_eq_true, decide_eq_true_eq] at hc
      cases td.int; cases te.int; cases hf
      exact op_fdiv pins s σ H _ _ v u Q I rx ry ⟨i, j, rfl, rfl, hc, q _ H (resV (.int _))⟩
    · cases hf
  · cases hf
theorem od_mod : OpR X (binaryOp .Mod) (rD2 X.K modD) := by
  intro pins s σ H x y v u Q I rx ry ⟨O, d, e, rv, hO, td, te, hf, q⟩
  unfold modD at hf
  split at hf
  · rename_i i j
    split at hf
    · rename_i hc
      cases td.int; cases te.int; cases hf
      exact op_mod pins s σ H _ _ v u Q I rx ry ⟨i, j, rfl, rfl, of_decide_eq_true hc, q _ H (resV (.int _))⟩
    · cases hf
  · cases hf
theorem od_pow : OpR X (binaryOp .Pow) (rD2 X.K powD) := by
  intro pins s σ H x y v u Q I rx ry ⟨O, d, e, rv, hO, td, te, hf, q⟩
  unfold powD at hf
  split at hf
  · rename_i i j
    split at hf
    · rename_i hc
      simp only [Bool.and_eq_true, decide_eq_true_eq] at hc
      have h64 := in64_ok hc.2
      cases td.int; cases te.int; cases hf
      exact op_pow pins s σ H _ _ v u Q I rx ry ⟨i, j, rfl, rfl, ⟨hc.1.1, hc.1.2, by omega⟩, q _ H (resV (.int _))⟩
    · cases hf
  · cases hf
theorem ud_neg : UnR X (unaryOp .USub) (rD1 X.K negD) := by
  intro pins s σ H x v Q I rx ⟨O, d, rv, hO, td, hf, q⟩
  unfold negD at hf
  split at hf
  · rename_i i
    cases td.int; cases hf
    exact un_neg pins s σ H _ v Q I rx ⟨i, rfl, q _ H (resV (.int _))⟩
  · cases hf
theorem okE_ok {K : PySem.W.Frag} {H : Hp} {O : AS} {d : D} {x : V} (h : okE d = true) (t : Top K H O d x) : noDict d = true ∧ d.canLay0 = true ∧ d.depth ≤ 60 ∧ Dp K H x d := by
  unfold okE at h
  simp only [Bool.and_eq_true, decide_eq_true_eq] at h
  exact ⟨h.1, t.lay h.1, h.2, t.dp h.1⟩
theorem cmpOk_ok {pins : List (Addr × Obj)} {s : Shared} {σ : St} {H : Hp} {O : AS} {d e : D} {x y : V} {v u : Value} (hu : X.A.units + 66 < cLine) (I : Inv X pins σ H s) (rx : RelV x v) (ry : RelV y u) (td : Top X.K H O d x) (te : Top X.K H O e y) (h : cmpOk d e = true) :
    (∃ as, Reads s.heap v d as) ∧ (∃ bs, Reads s.heap u e bs) ∧ PySem.W.alike d e = true ∧ d ≠ .none ∧ X.A.units + min d.depth e.depth < cLine := by
  unfold cmpOk at h
  simp only [Bool.and_eq_true] at h
  obtain ⟨⟨⟨h1, h2⟩, h3⟩, h4⟩ := h
  obtain ⟨_, _, g1, p1⟩ := okE_ok h1 td
  obtain ⟨_, _, g2, p2⟩ := okE_ok h2 te
  exact ⟨Dp.reads I d x v p1 rx, Dp.reads I e y u p2 ry, h3, (fun e => by subst e; cases h4), by omega⟩
theorem od_lt (hu : X.A.units + 66 < cLine) : OpR X (compareOp .Lt) (rD2 X.K ltD) := by
  intro pins s σ H x y v u Q I rx ry ⟨O, d, e, rv, hO, td, te, hf, q⟩
  unfold ltD at hf
  split at hf
  · rename_i i j
    cases td.int; cases te.int; cases hf
    exact op_lt pins s σ H _ _ v u Q I rx ry ⟨i, j, rfl, rfl, q _ H resBl⟩
  · rename_i i j
    cases td.str; cases te.str; cases hf
    exact op_lt_str pins s σ H _ _ v u Q I rx ry ⟨i, j, rfl, rfl, q _ H resBl⟩
  · split at hf
    · rename_i hc
      cases hf
      obtain ⟨⟨as, r1⟩, ⟨bs, r2⟩, a1, a2, a3⟩ := cmpOk_ok hu I rx ry td te hc
      exact PySem.W.lt_data r1 r2 a1 a2 a3 ⟨.bl _, H, I, rfl, q _ H resBl⟩
    · cases hf
theorem od_le (hu : X.A.units + 66 < cLine) : OpR X (compareOp .LtE) (rD2 X.K leD) := by
  intro pins s σ H x y v u Q I rx ry ⟨O, d, e, rv, hO, td, te, hf, q⟩
  unfold leD at hf
  split at hf
  · rename_i i j
    cases td.int; cases te.int; cases hf
    exact op_le pins s σ H _ _ v u Q I rx ry ⟨i, j, rfl, rfl, q _ H resBl⟩
  · split at hf
    · rename_i hc
      cases hf
      obtain ⟨⟨as, r1⟩, ⟨bs, r2⟩, a1, a2, a3⟩ := cmpOk_ok hu I rx ry td te hc
      exact PySem.W.le_data r1 r2 a1 a2 a3 ⟨.bl _, H, I, rfl, q _ H resBl⟩
    · cases hf
theorem od_gt (hu : X.A.units + 66 < cLine) : OpR X (compareOp .Gt) (rD2 X.K gtD) := by
  intro pins s σ H x y v u Q I rx ry ⟨O, d, e, rv, hO, td, te, hf, q⟩
  unfold gtD at hf
  split at hf
  · rename_i i j
    cases td.int; cases te.int; cases hf
    exact op_gt pins s σ H _ _ v u Q I rx ry ⟨i, j, rfl, rfl, q _ H resBl⟩
  · split at hf
    · rename_i hc
      cases hf
      obtain ⟨⟨as, r1⟩, ⟨bs, r2⟩, a1, a2, a3⟩ := cmpOk_ok hu I rx ry td te hc
      exact PySem.W.gt_data r1 r2 a1 a2 a3 ⟨.bl _, H, I, rfl, q _ H resBl⟩
    · cases hf
theorem od_ge (hu : X.A.units + 66 < cLine) : OpR X (compareOp .GtE) (rD2 X.K geD) := by
  intro pins s σ H x y v u Q I rx ry ⟨O, d, e, rv, hO, td, te, hf, q⟩
  unfold geD at hf
  split at hf
  · rename_i i j
    cases td.int; cases te.int; cases hf
    exact op_ge pins s σ H _ _ v u Q I rx ry ⟨i, j, rfl, rfl, q _ H resBl⟩
  · split at hf
    · rename_i hc
      cases hf
      obtain ⟨⟨as, r1⟩, ⟨bs, r2⟩, a1, a2, a3⟩ := cmpOk_ok hu I rx ry td te hc
      exact PySem.W.ge_data r1 r2 a1 a2 a3 ⟨.bl _, H, I, rfl, q _ H resBl⟩
    · cases hf
theorem shaped_of {d : D} (h : d.canLay0 = true) (g : d.depth ≤ 60) : SeqAt.shaped d = true := by
  unfold SeqAt.shaped
  rw [h]
  simp only [Bool.true_and, decide_eq_true_eq]
  omega
theorem od_eq (hu : X.A.units + 66 < cLine) : OpR X (compareOp .Eq) (rD2 X.K eqD) := by
  intro pins s σ H x y v u Q I rx ry ⟨O, d, e, rv, hO, td, te, hf, q⟩
  unfold eqD at hf
  split at hf
  · rename_i hc
    simp only [Bool.and_eq_true] at hc
    obtain ⟨_, l1, g1, p1⟩ := okE_ok hc.1 td
    obtain ⟨_, l2, g2, p2⟩ := okE_ok hc.2 te
    cases hf
    exact op_eqD (by omega) pins s σ H x y v u Q I rx ry ⟨d, e, p1, p2, shaped_of l1 g1, shaped_of l2 g2, q _ H resBl⟩
  · split at hf
    · rename_i ds _
      cases hf
      obtain ⟨a, vs, rfl, ha, ra⟩ := td.tuple
      obtain ⟨b, ws, rfl, hb, rb⟩ := te.tuple
      cases rb
      cases rx; cases ry
      obtain ⟨its, r1, p1, z1⟩ := I.tuple ha
      obtain ⟨its2, r2, p2, z2⟩ := I.tuple hb
      cases r2
      have hl := r1.length
      have hm := ra.length
      have e2 : ((List.range (min its.toArray.size ([] : List Value).toArray.size)).all (fun _ => true) && its.toArray.size == ([] : List Value).toArray.size) = ds.isEmpty := by
        cases ds with
        | nil =>
          have : its = [] := List.eq_nil_of_length_eq_zero (by rw [← hl, ← hm]; rfl)
          subst this; rfl
        | cons d ds =>
          cases its with
          | nil => rw [← hm] at hl; cases hl
          | cons i its => simp
      exact PySem.W.eq_tuplesT (n := 0) (e := fun _ => true) (show s.heap.IsTuple a its.toArray from p1) (show s.heap.IsTuple b ([] : List Value).toArray from p2) (fun j h1 h2 => absurd h2 (by simp)) (by omega) (by rw [e2]; exact ⟨.bl _, H, I, rfl, q _ H resBl⟩)
    · cases hf
theorem od_ne (hu : X.A.units + 66 < cLine) : OpR X (compareOp .NotEq) (rD2 X.K neD) := by
  intro pins s σ H x y v u Q I rx ry ⟨O, d, e, rv, hO, td, te, hf, q⟩
  unfold neD at hf
  split at hf
  · rename_i hc
    simp only [Bool.and_eq_true] at hc
    obtain ⟨_, l1, g1, p1⟩ := okE_ok hc.1 td
    obtain ⟨_, l2, g2, p2⟩ := okE_ok hc.2 te
    cases hf
    exact op_neD (by omega) pins s σ H x y v u Q I rx ry ⟨d, e, p1, p2, shaped_of l1 g1, shaped_of l2 g2, q _ H resBl⟩
  · cases hf
theorem sign_of {x : Str} {c : Nat} (h : x.cps.toList = [c]) : x = ⟨#[c]⟩ := by
  obtain ⟨a⟩ := x
  have e : a = #[c] := by
    have := congrArg List.toArray h
    simpa using this
  rw [e]
/-- whether x stands in y, or does not -/
theorem od_in' {neg : Bool} (hu : X.A.units + 66 < cLine) {pins : List (Addr × Obj)} {s : Shared} {σ : L2.St} {H : Hp} {x y : V} {v u : Value} {Q : VK} {O : AS} {d e : D} {b : Bool}
    (I : Inv X pins σ H s) (rx : RelV x v) (ry : RelV y u) (td : Top X.K H O d x) (te : Top X.K H O e y) (hf : inD d e = some (.v (.bool b))) (q : Q (.bl (if neg then !b else b)) H) :
    wpAny (model X.prog X.w) X.A (compareOp (if neg then .NotIn else .In) v u) (EP X pins σ Q) X.xe s := by
  have dropD : ∀ ys : List D, (okE d && noDicts ys) = true → okE d = true ∧ noDicts ys = true := fun ys h => by simpa only [Bool.and_eq_true] using h
  unfold inD at hf
  split at hf
  · rename_i ys
    split at hf
    · rename_i hc
      obtain ⟨c1, c2⟩ := dropD _ hc
      obtain ⟨_, l1, g1, p1⟩ := okE_ok c1 td
      have n2 : noDict (.list ys) = true := by simpa [noDict] using c2
      obtain ⟨as, r1⟩ := Dp.reads I _ _ _ p1 rx
      obtain ⟨bs, r2⟩ := Dp.reads I _ _ _ (te.dp n2) ry
      have l2 : PyData.canLayAll0 ys = true := by have := te.lay n2; rwa [PyData.canLay0] at this
      have hm : min (PyData.depthAll ys) d.depth ≤ d.depth := Nat.min_le_right _ _
      cases hf
      cases neg with
      | false => exact SeqAt.in_list_reads r2 r1 l2 l1 (by omega) ⟨.bl _, H, I, rfl, q⟩
      | true => exact SeqAt.notIn_list_reads r2 r1 l2 l1 (by omega) ⟨.bl _, H, I, rfl, q⟩
    · cases hf
  · rename_i ys
    split at hf
    · rename_i hc
      obtain ⟨c1, c2⟩ := dropD _ hc
      obtain ⟨_, l1, g1, p1⟩ := okE_ok c1 td
      have n2 : noDict (.tuple ys) = true := by simpa [noDict] using c2
      obtain ⟨as, r1⟩ := Dp.reads I _ _ _ p1 rx
      obtain ⟨bs, r2⟩ := Dp.reads I _ _ _ (te.dp n2) ry
      have l2 : PyData.canLayAll0 ys = true := by have := te.lay n2; rwa [PyData.canLay0] at this
      have hm : min (PyData.depthAll ys) d.depth ≤ d.depth := Nat.min_le_right _ _
      cases hf
      cases neg with
      | false => exact SeqAt.in_tuple_reads r2 r1 l2 l1 (by omega) ⟨.bl _, H, I, rfl, q⟩
      | true => exact SeqAt.notIn_tuple_reads r2 r1 l2 l1 (by omega) ⟨.bl _, H, I, rfl, q⟩
    · cases hf
  · rename_i x' z
    split at hf
    · rename_i c hx
      cases td.str; cases te.str
      have ex := sign_of hx
      subst ex
      cases hf
      cases neg with
      | false => exact op_in_sign pins s σ H _ _ v u Q I rx ry ⟨c, z, rfl, rfl, q⟩
      | true => exact op_notIn_sign pins s σ H _ _ v u Q I rx ry ⟨c, z, rfl, rfl, q⟩
    · cases hf
  · rename_i x' ds
    split at hf
    · rename_i hk
      obtain ⟨k, rfl⟩ := isKD_ok hk
      have ex : x = kV k := by
        cases k with
        | inl i => exact td.int
        | inr i => exact td.str
      subst ex
      obtain ⟨a, kvs, rfl, e, r⟩ := te.dict
      cases ry
      have g : DGet H a (kV k) (valV kvs k) := DGet.k e
      have ee : (getK ds (kD k)).isSome = (valV kvs k).isSome := by
        rcases getK_ok (k := k) r with ⟨g1, g2⟩ | ⟨_, _, g1, g2, _⟩ <;> rw [g1, g2] <;> rfl
      cases hf
      rw [ee] at q
      cases neg with
      | false => exact d_in (by omega) I g rx fun s' I' => ⟨.bl (valV kvs k).isSome, H, I', rfl, q⟩
      | true => exact d_notIn (by omega) I g rx fun s' I' => ⟨.bl (!(valV kvs k).isSome), H, I', rfl, q⟩
    · cases hf
  · cases hf
theorem inD_bool {d e : D} {rv : RV} (h : inD d e = some rv) : ∃ b, rv = .v (.bool b) := by
  unfold inD bl at h
  split at h
  · split at h <;> first | (cases h; exact ⟨_, rfl⟩) | cases h
  · split at h <;> first | (cases h; exact ⟨_, rfl⟩) | cases h
  · split at h <;> first | (cases h; exact ⟨_, rfl⟩) | cases h
  · split at h <;> first | (cases h; exact ⟨_, rfl⟩) | cases h
  · cases h
theorem od_in (hu : X.A.units + 66 < cLine) : OpR X (compareOp .In) (rD2 X.K inD) := by
  intro pins s σ H x y v u Q I rx ry ⟨O, d, e, rv, hO, td, te, hf, q⟩
  obtain ⟨b, rfl⟩ := inD_bool hf
  exact od_in' (neg := false) hu I rx ry td te hf (q _ H resBl)
theorem od_notIn (hu : X.A.units + 66 < cLine) : OpR X (compareOp .NotIn) (rD2 X.K notInD) := by
  intro pins s σ H x y v u Q I rx ry ⟨O, d, e, rv, hO, td, te, hf, q⟩
  unfold notInD at hf
  split at hf
  · rename_i b hb
    cases hf
    exact od_in' (neg := true) hu I rx ry td te hb (q _ H resBl)
  · cases hf
theorem top_non {K : PySem.W.Frag} {H : Hp} {O : AS} {d : D} {x : V} (t : Top K H O d x) : (decide (x = .non)) = isN d := by
  rcases t with t | ⟨a, rfl, t⟩
  · cases t <;> rfl
  · cases d <;> first | exact (show False from t).elim | rfl
theorem od_is' {neg : Bool} {pins : List (Addr × Obj)} {s : Shared} {σ : L2.St} {H : Hp} {x y : V} {v u : Value} {Q : VK} {O : AS} {d e : D} {b : Bool}
    (I : Inv X pins σ H s) (rx : RelV x v) (ry : RelV y u) (td : Top X.K H O d x) (te : Top X.K H O e y) (hf : isD d e = some (.v (.bool b))) (q : Q (.bl (if neg then !b else b)) H) :
    wpAny (model X.prog X.w) X.A (compareOp (if neg then .IsNot else .Is) v u) (EP X pins σ Q) X.xe s := by
  unfold isD bl at hf
  split at hf
  · cases te.non
    have e := top_non td
    cases hf
    rw [← e] at q
    cases neg with
    | false => exact op_isN pins s σ H _ _ v u Q I rx ry ⟨rfl, q⟩
    | true => exact op_notN pins s σ H _ _ v u Q I rx ry ⟨rfl, q⟩
  · rename_i a c
    cases td.bl; cases te.bl; cases hf
    cases neg with
    | false => exact op_is_bl pins s σ H _ _ v u Q I rx ry ⟨a, c, rfl, rfl, q⟩
    | true => exact op_isnot_bl pins s σ H _ _ v u Q I rx ry ⟨a, c, rfl, rfl, q⟩
  · cases hf
theorem isD_bool {d e : D} {rv : RV} (h : isD d e = some rv) : ∃ b, rv = .v (.bool b) := by
  unfold isD bl at h
  split at h <;> first | (cases h; exact ⟨_, rfl⟩) | cases h
theorem od_is : OpR X (compareOp .Is) (rD2 X.K isD) := by
  intro pins s σ H x y v u Q I rx ry ⟨O, d, e, rv, hO, td, te, hf, q⟩
  obtain ⟨b, rfl⟩ := isD_bool hf
  exact od_is' (neg := false) I rx ry td te hf (q _ H resBl)
theorem od_isNot : OpR X (compareOp .IsNot) (rD2 X.K isNotD) := by
  intro pins s σ H x y v u Q I rx ry ⟨O, d, e, rv, hO, td, te, hf, q⟩
  unfold isNotD at hf
  split at hf
  · rename_i b hb
    cases hf
    exact od_is' (neg := true) I rx ry td te hb (q _ H resBl)
  · cases hf
theorem atI_reps {K : PySem.W.Frag} {H : Hp} {O : AS} {ds : List D} {vs : List V} {i : Int} {d : D} (r : Reps K H O ds vs) (h : atI ds i = some d) : ∃ v, atI vs i = some v ∧ Rep K H O d v := by
  unfold atI at h ⊢
  rw [← r.length]
  cases e : ixN ds.length i with
  | none => rw [e] at h; cases h
  | some j =>
    rw [e] at h
    exact r.get h
theorem ixd (hu : X.A.units + 66 < cLine) : IxR X (rD2 X.K ixD) := by
  intro value slice pins s σ H x y v u Q I rx ry ⟨O, d, e, rv, hO, td, te, hf, q⟩ hs
  unfold ixD at hf
  split at hf
  · rename_i xs i
    cases te.int
    obtain ⟨a, vs, rfl, ha, ra⟩ := td.list
    cases hx : atI xs i with
    | none => rw [hx] at hf; cases hf
    | some w =>
      rw [hx] at hf; cases hf
      obtain ⟨z, e1, e2⟩ := atI_reps ra hx
      exact ix_list value slice pins s σ H _ _ v u Q I rx ry ⟨a, vs, i, z, rfl, rfl, ha, e1, q _ _ (resV e2)⟩ hs
  · rename_i xs i
    cases te.int
    obtain ⟨a, vs, rfl, ha, ra⟩ := td.tuple
    cases hx : atI xs i with
    | none => rw [hx] at hf; cases hf
    | some w =>
      rw [hx] at hf; cases hf
      obtain ⟨z, e1, e2⟩ := atI_reps ra hx
      exact ix_tup value slice pins s σ H _ _ v u Q I rx ry ⟨a, vs, i, z, rfl, rfl, ha, e1, q _ _ (resV e2)⟩ hs
  · rename_i z i
    split at hf
    · rename_i hz
      have sk := td.strOk
      cases te.int; cases td.str
      cases hx : atI z.cps.toList i with
      | none => rw [hx] at hf; cases hf
      | some w =>
        rw [hx] at hf; cases hf
        have hm : w ∈ z.cps.toList := by
          unfold atI at hx
          cases e : ixN z.cps.toList.length i with
          | none => rw [e] at hx; cases hx
          | some j => rw [e] at hx; exact List.mem_of_getElem? hx
        exact ix_str value slice pins s σ H _ _ v u Q I rx ry ⟨z, i, w, rfl, rfl, szb_ok hz, hx, q _ _ (resV (.str _ (strOk_one sk hm)))⟩ hs
    · cases hf
  · rename_i ds x'
    split at hf
    · rename_i hk
      obtain ⟨k, rfl⟩ := isKD_ok hk
      have ex : y = kV k := by
        cases k with
        | inl i => exact te.int
        | inr i => exact te.str
      subst ex
      obtain ⟨a, kvs, rfl, e, r⟩ := td.dict
      cases rx
      rcases getK_ok (k := k) r with ⟨g1, g2⟩ | ⟨d', v', g1, g2, g3⟩
      · rw [g1] at hf; cases hf
      · rw [g1] at hf; cases hf
        have g : DGet H a (kV k) (some v') := by rw [← g2]; exact DGet.k e
        exact tail_any (dict_typeIs I g) PySem.F.slot_dict_getitem.lookup (d_getItem (by omega) I g ry fun w' s3 I3 rw' => ⟨v', H, I3, rw', q _ _ (resV g3)⟩) hs
    · cases hf
  · cases hf
end
end Z
namespace Z
open PySem PySem.Spec L2
open PyProof.Rows hiding St

/-! ## built-ins on data -/
def intsOf : List D → Option (List Int)
  | [] => some []
  | .int i :: r => (intsOf r).map (i :: ·)
  | _ :: _ => none
def boolsOf : List D → Option (List Bool)
  | [] => some []
  | .bool i :: r => (boolsOf r).map (i :: ·)
  | _ :: _ => none
def strsOf : List D → Option (List Str)
  | [] => some []
  | .str i :: r => (strsOf r).map (i :: ·)
  | _ :: _ => none
theorem intsOf_ok : ∀ {ds : List D} {ns : List Int}, intsOf ds = some ns → ds = ns.map .int
  | [], ns, h => by cases h; rfl
  | d :: r, ns, h => by
    unfold intsOf at h
    split at h
    · rename_i e; cases e
    · rename_i i r' e
      obtain ⟨e1, e2⟩ := List.cons.inj e
      subst e1; subst e2
      cases q : intsOf r with
      | none => rw [q] at h; cases h
      | some ms => rw [q] at h; cases h; rw [intsOf_ok q]; rfl
    · cases h
theorem boolsOf_ok : ∀ {ds : List D} {ns : List Bool}, boolsOf ds = some ns → ds = ns.map .bool
  | [], ns, h => by cases h; rfl
  | d :: r, ns, h => by
    unfold boolsOf at h
    split at h
    · rename_i e; cases e
    · rename_i i r' e
      obtain ⟨e1, e2⟩ := List.cons.inj e
      subst e1; subst e2
      cases q : boolsOf r with
      | none => rw [q] at h; cases h
      | some ms => rw [q] at h; cases h; rw [boolsOf_ok q]; rfl
    · cases h
theorem strsOf_ok : ∀ {ds : List D} {ns : List Str}, strsOf ds = some ns → ds = ns.map .str
  | [], ns, h => by cases h; rfl
  | d :: r, ns, h => by
    unfold strsOf at h
    split at h
    · rename_i e; cases e
    · rename_i i r' e
      obtain ⟨e1, e2⟩ := List.cons.inj e
      subst e1; subst e2
      cases q : strsOf r with
      | none => rw [q] at h; cases h
      | some ms => rw [q] at h; cases h; rw [strsOf_ok q]; rfl
    · cases h
theorem intsOf_map : ∀ ns : List Int, intsOf (ns.map .int) = some ns
  | [] => rfl
  | n :: ns => by rw [List.map_cons, intsOf, intsOf_map ns]; rfl
theorem boolsOf_map : ∀ ns : List Bool, boolsOf (ns.map .bool) = some ns
  | [] => rfl
  | n :: ns => by rw [List.map_cons, boolsOf, boolsOf_map ns]; rfl
theorem strsOf_map : ∀ ns : List Str, strsOf (ns.map .str) = some ns
  | [] => rfl
  | n :: ns => by rw [List.map_cons, strsOf, strsOf_map ns]; rfl
def lenD : List D → Option RV
  | [.list ds] => some (.v (.int ds.length))
  | [.tuple ds] => some (.v (.int ds.length))
  | [.str s] => if szb s.length then some (.v (.int s.length)) else none
  | _ => none
def intD : List D → Option RV
  | [.int i] => some (.v (.int i))
  | [.bool b] => some (.v (.int (if b then 1 else 0)))
  | [.str s] => if decide (s.length ≤ 640) then (PySem.intText? s).map fun n => .v (.int n) else none
  | _ => none
def absD : List D → Option RV
  | [.int i] => some (.v (.int (if i < 0 then -i else i)))
  | _ => none
def maxOf : List Int → Int
  | [] => 0
  | [x] => x
  | x :: y :: r => if maxOf (y :: r) > x then maxOf (y :: r) else x
def minOf : List Int → Int
  | [] => 0
  | [x] => x
  | x :: y :: r => if minOf (y :: r) < x then minOf (y :: r) else x
def maxD : List D → Option RV
  | [.int i, .int j] => some (.v (.int (if j > i then j else i)))
  | [.list ds] => match intsOf ds with
    | some (n :: ns) => some (.v (.int (maxOf (n :: ns))))
    | _ => none
  | _ => none
def minD : List D → Option RV
  | [.int i, .int j] => some (.v (.int (if j < i then j else i)))
  | [.list ds] => match intsOf ds with
    | some (n :: ns) => some (.v (.int (minOf (n :: ns))))
    | _ => none
  | _ => none
def sumD : List D → Option RV
  | [.list ds] => (intsOf ds).map fun ns => .v (.int ns.sum)
  | _ => none
def allD : List D → Option RV
  | [.list ds] => (boolsOf ds).map fun bs => .v (.bool (bs.all id))
  | _ => none
def anyD : List D → Option RV
  | [.list ds] => (boolsOf ds).map fun bs => .v (.bool (bs.any id))
  | _ => none
def divmodD : List D → Option RV
  | [.int i, .int j] => if decide (0 < j) && decide (j < 1073741824) then some (.v (.tuple [.int (i / j), .int (i % j)])) else none
  | _ => none
def tupleD : List D → Option RV
  | [.list ds] => some (.v (.tuple ds))
  | [.tuple ds] => some (.v (.tuple ds))
  | _ => none
def listD : List D → Option RV
  | [.list ds] => some (.o (.list ds))
  | [.tuple ds] => some (.o (.list ds))
  | _ => none
def strD : List D → Option RV
  | [.int i] => if decide (i.natAbs.log2 < 1920) then some (.v (.str (toString i))) else none
  | _ => none
/-- the smallest first -/
def srtOk (ds : List D) : Bool := (ds.all fun d => ds.all fun e => PySem.W.alike d e) && (ds.all okE && ((ds.all fun d => match d with
  | .tuple (_ :: _) => true
  | _ => false) || ds.all fun d => match d with
  | .none => false
  | .tuple _ => false
  | _ => true))
def sortL (ds : List D) : List D := ds.mergeSort (PySem.W.dataLe false id)
def sortedD : List D → Option RV
  | [.list ds] => if srtOk ds then some (.o (.list (sortL ds))) else none
  | _ => none
def joinD (a : D) : List D → Option RV
  | [.list ds] => match a, strsOf ds with
    | .str s, some ys => if szb ((ys.map (·.length)).sum + ys.length * s.length) then some (.v (.str (Txt.join s ys))) else none
    | _, _ => none
  | _ => none

theorem strOk_of (x : String) : PyData.strOk (Str.ofString x) = true := by
  rw [strOk_iff, Str.ofString_eq_toList]
  intro c hc
  have hc : c ∈ (x.toList.map Char.toNat).toArray.toList := hc
  rw [List.toList_toArray] at hc
  obtain ⟨d, _, e⟩ := List.mem_map.mp hc
  rw [← e]
  have := d.valid
  rcases this with h | ⟨_, h⟩
  · have : d.toNat < 0xd800 := h
    omega
  · exact h
section
variable {X : Cx}
theorem reps_list {K : PySem.W.Frag} {H : Hp} {O : AS} {ds : List D} {v : V} (t : Top K H O (.list ds) v) : ∃ a vs, v = .ref a ∧ SqL K H a vs ∧ Reps K H O ds vs := t.list
theorem cd_len : CallR X (.builtin "len") (rDs X.K lenD) := by
  intro pins s σ H xs us Q I r ⟨O, ds, rv, hO, ts, hf, q⟩
  unfold lenD at hf
  split at hf
  · rename_i es
    match xs, ts with
    | [x], ⟨t, _⟩ =>
      obtain ⟨a, vs, rfl, ha, ra⟩ := t.list
      cases hf
      exact call_len_seq pins s σ H _ us Q I r ⟨a, vs, rfl, .inl ha, by rw [← ra.length]; exact q _ H (resV (.int _))⟩
    | _ :: _ :: _, ⟨_, t⟩ => exact t.elim
  · rename_i es
    match xs, ts with
    | [x], ⟨t, _⟩ =>
      obtain ⟨a, vs, rfl, ha, ra⟩ := t.tuple
      cases hf
      exact call_len_seq pins s σ H _ us Q I r ⟨a, vs, rfl, .inr ha, by rw [← ra.length]; exact q _ H (resV (.int _))⟩
    | _ :: _ :: _, ⟨_, t⟩ => exact t.elim
  · rename_i z
    split at hf
    · rename_i hz
      match xs, ts with
      | [x], ⟨t, _⟩ =>
        cases t.str
        cases hf
        exact call_len_str pins s σ H _ us Q I r ⟨z, rfl, szb_ok hz, q _ H (resV (.int _))⟩
      | _ :: _ :: _, ⟨_, t⟩ => exact t.elim
    · cases hf
  · cases hf
theorem tops1 {K : PySem.W.Frag} {H : Hp} {O : AS} {d : D} {xs : List V} (h : Tops K H O [d] xs) : ∃ x, xs = [x] ∧ Top K H O d x := by
  match xs, h with
  | [x], ⟨t, _⟩ => exact ⟨x, rfl, t⟩
  | _ :: _ :: _, ⟨_, t⟩ => exact t.elim
theorem tops2 {K : PySem.W.Frag} {H : Hp} {O : AS} {d e : D} {xs : List V} (h : Tops K H O [d, e] xs) : ∃ x y, xs = [x, y] ∧ Top K H O d x ∧ Top K H O e y := by
  match xs, h with
  | [x], ⟨_, t⟩ => exact t.elim
  | [x, y], ⟨t, t2, _⟩ => exact ⟨x, y, rfl, t, t2⟩
  | _ :: _ :: _ :: _, ⟨_, _, t⟩ => exact t.elim
theorem cd_int : CallR X (.type "int") (rDs X.K intD) := by
  intro pins s σ H xs us Q I r ⟨O, ds, rv, hO, ts, hf, q⟩
  unfold intD at hf
  split at hf
  · obtain ⟨x, rfl, t⟩ := tops1 ts
    cases t.int; cases hf
    exact call_int1 pins s σ H _ us Q I r (.inl ⟨_, rfl, q _ H (resV (.int _))⟩)
  · obtain ⟨x, rfl, t⟩ := tops1 ts
    cases t.bl; cases hf
    exact call_int1 pins s σ H _ us Q I r (.inr ⟨_, rfl, q _ H (resV (.int _))⟩)
  · rename_i z
    obtain ⟨x, rfl, t⟩ := tops1 ts
    split at hf
    · rename_i hz
      cases t.str
      cases e : PySem.intText? z with
      | none => rw [e] at hf; cases hf
      | some n =>
        rw [e] at hf; cases hf
        exact call_int_str pins s σ H _ us Q I r ⟨z, n, rfl, e, of_decide_eq_true hz, q _ H (resV (.int _))⟩
    · cases hf
  · cases hf
theorem cd_abs : CallR X (.builtin "abs") (rDs X.K absD) := by
  intro pins s σ H xs us Q I r ⟨O, ds, rv, hO, ts, hf, q⟩
  unfold absD at hf
  split at hf
  · obtain ⟨x, rfl, t⟩ := tops1 ts
    cases t.int; cases hf
    exact call_abs pins s σ H _ us Q I r ⟨_, rfl, q _ H (resV (.int _))⟩
  · cases hf
theorem maxOf_ok : ∀ {n : Int} {ns : List Int}, maxOf (n :: ns) ∈ n :: ns ∧ ∀ y ∈ n :: ns, y ≤ maxOf (n :: ns)
  | n, [] => ⟨by simp [maxOf], fun y h => by rw [List.mem_singleton.mp h]; exact Int.le_refl _⟩
  | n, m :: ns => by
    obtain ⟨h1, h2⟩ := maxOf_ok (n := m) (ns := ns)
    rw [maxOf]
    split
    · rename_i hc
      refine ⟨List.mem_cons_of_mem _ h1, fun y hy => ?_⟩
      rcases List.mem_cons.mp hy with e | e
      · subst e; omega
      · exact h2 y e
    · rename_i hc
      refine ⟨List.mem_cons_self, fun y hy => ?_⟩
      rcases List.mem_cons.mp hy with e | e
      · subst e; exact Int.le_refl _
      · have := h2 y e; omega
theorem minOf_ok : ∀ {n : Int} {ns : List Int}, minOf (n :: ns) ∈ n :: ns ∧ ∀ y ∈ n :: ns, minOf (n :: ns) ≤ y
  | n, [] => ⟨by simp [minOf], fun y h => by rw [List.mem_singleton.mp h]; exact Int.le_refl _⟩
  | n, m :: ns => by
    obtain ⟨h1, h2⟩ := minOf_ok (n := m) (ns := ns)
    rw [minOf]
    split
    · rename_i hc
      refine ⟨List.mem_cons_of_mem _ h1, fun y hy => ?_⟩
      rcases List.mem_cons.mp hy with e | e
      · subst e; omega
      · exact h2 y e
    · rename_i hc
      refine ⟨List.mem_cons_self, fun y hy => ?_⟩
      rcases List.mem_cons.mp hy with e | e
      · subst e; exact Int.le_refl _
      · have := h2 y e; omega
theorem cd_max (hc : X.calm = true) : CallR X (.builtin "max") (rDs X.K maxD) := by
  intro pins s σ H xs us Q I r ⟨O, ds, rv, hO, ts, hf, q⟩
  unfold maxD at hf
  split at hf
  · obtain ⟨x, y, rfl, t, t2⟩ := tops2 ts
    cases t.int; cases t2.int; cases hf
    exact call_max2 hc pins s σ H _ us Q I r ⟨_, _, rfl, q _ H (resV (.int _))⟩
  · obtain ⟨x, rfl, t⟩ := tops1 ts
    obtain ⟨a, vs, rfl, ha, ra⟩ := t.list
    split at hf
    · rename_i n ns hn
      cases hf
      have ev := ra.ints (intsOf_ok hn)
      subst ev
      refine cr_max hc pins s σ H _ us Q I r ⟨a, n :: ns, rfl, ha, by simp, fun m hm hy => ?_⟩
      obtain ⟨h1, h2⟩ := maxOf_ok (n := n) (ns := ns)
      have e : m = maxOf (n :: ns) := Int.le_antisymm (h2 m hm) (hy _ h1)
      rw [e]; exact q _ H (resV (.int _))
    · cases hf
  · cases hf
theorem cd_min (hc : X.calm = true) : CallR X (.builtin "min") (rDs X.K minD) := by
  intro pins s σ H xs us Q I r ⟨O, ds, rv, hO, ts, hf, q⟩
  unfold minD at hf
  split at hf
  · obtain ⟨x, y, rfl, t, t2⟩ := tops2 ts
    cases t.int; cases t2.int; cases hf
    exact call_min2 hc pins s σ H _ us Q I r ⟨_, _, rfl, q _ H (resV (.int _))⟩
  · obtain ⟨x, rfl, t⟩ := tops1 ts
    obtain ⟨a, vs, rfl, ha, ra⟩ := t.list
    split at hf
    · rename_i n ns hn
      cases hf
      have ev := ra.ints (intsOf_ok hn)
      subst ev
      refine cr_min hc pins s σ H _ us Q I r ⟨a, n :: ns, rfl, ha, by simp, fun m hm hy => ?_⟩
      obtain ⟨h1, h2⟩ := minOf_ok (n := n) (ns := ns)
      have e : m = minOf (n :: ns) := Int.le_antisymm (hy _ h1) (h2 m hm)
      rw [e]; exact q _ H (resV (.int _))
    · cases hf
  · cases hf
theorem cd_sum (hc : X.calm = true) : CallR X (.builtin "sum") (rDs X.K sumD) := by
  intro pins s σ H xs us Q I r ⟨O, ds, rv, hO, ts, hf, q⟩
  unfold sumD at hf
  split at hf
  · rename_i es
    obtain ⟨x, rfl, t⟩ := tops1 ts
    obtain ⟨a, vs, rfl, ha, ra⟩ := t.list
    cases hn : intsOf es with
    | none => rw [hn] at hf; cases hf
    | some ns =>
      rw [hn] at hf; cases hf
      have ev := ra.ints (intsOf_ok hn)
      subst ev
      exact cr_sum hc pins s σ H _ us Q I r ⟨a, ns, rfl, ha, q _ H (resV (.int _))⟩
  · cases hf
theorem cd_all (hc : X.calm = true) : CallR X (.builtin "all") (rDs X.K allD) := by
  intro pins s σ H xs us Q I r ⟨O, ds, rv, hO, ts, hf, q⟩
  unfold allD at hf
  split at hf
  · rename_i es
    obtain ⟨x, rfl, t⟩ := tops1 ts
    obtain ⟨a, vs, rfl, ha, ra⟩ := t.list
    cases hn : boolsOf es with
    | none => rw [hn] at hf; cases hf
    | some ns =>
      rw [hn] at hf; cases hf
      have ev := ra.bools (boolsOf_ok hn)
      subst ev
      exact cr_all hc pins s σ H _ us Q I r ⟨a, ns, rfl, ha, q _ H resBl⟩
  · cases hf
theorem cd_any (hc : X.calm = true) : CallR X (.builtin "any") (rDs X.K anyD) := by
  intro pins s σ H xs us Q I r ⟨O, ds, rv, hO, ts, hf, q⟩
  unfold anyD at hf
  split at hf
  · rename_i es
    obtain ⟨x, rfl, t⟩ := tops1 ts
    obtain ⟨a, vs, rfl, ha, ra⟩ := t.list
    cases hn : boolsOf es with
    | none => rw [hn] at hf; cases hf
    | some ns =>
      rw [hn] at hf; cases hf
      have ev := ra.bools (boolsOf_ok hn)
      subst ev
      exact cr_any hc pins s σ H _ us Q I r ⟨a, ns, rfl, ha, q _ H resBl⟩
  · cases hf
theorem each_of {K : PySem.W.Frag} {H : Hp} {O : AS} : ∀ {ds : List D} {vs : List V} {its : List Value}, Reps K H O ds vs → Vals vs its → PySem.W.EachIs (fun v d => ∃ x, RelV x v ∧ Rep K H O d x) its ds
  | _, _, _, .nil, .nil => .nil
  | _, _, _, .cons a b, .cons c d => .cons ⟨_, c, a⟩ (each_of b d)
theorem each_back {K : PySem.W.Frag} {H : Hp} {O : AS} : ∀ {ds : List D} {its : List Value}, PySem.W.EachIs (fun v d => ∃ x, RelV x v ∧ Rep K H O d x) its ds → ∃ vs, Vals vs its ∧ Reps K H O ds vs
  | _, _, .nil => ⟨[], .nil, .nil⟩
  | _, _, .cons ⟨x, h1, h2⟩ t => by
    obtain ⟨vs, a, b⟩ := each_back t
    exact ⟨x :: vs, .cons h1 a, .cons h2 b⟩
theorem each_reads {pins : List (Addr × Obj)} {s : Shared} {σ : St} {H : Hp} {O : AS} (I : Inv X pins σ H s) : ∀ {ds : List D} {vs : List V} {its : List Value}, Reps X.K H O ds vs → Vals vs its → (∀ d ∈ ds, okE d = true) → PySem.W.EachIs (fun v d => ∃ as, Reads s.heap v (id d) as) its ds
  | _, _, _, .nil, .nil, _ => .nil
  | d :: ds, _, _, .cons a b, .cons c e, h => by
    obtain ⟨_, _, _, p⟩ := okE_ok (h d List.mem_cons_self) (.inl a : Top X.K H O d _)
    exact .cons (Dp.reads I d _ _ p c) (each_reads I b e fun x hx => h x (List.mem_cons_of_mem _ hx))
theorem cd_sorted (hu : X.A.units + 66 < cLine) : CallR X (.builtin "sorted") (rDs X.K sortedD) := by
  intro pins s σ H xs us Q I r ⟨O, ds, rv, hO, ts, hf, q⟩
  unfold sortedD at hf
  split at hf
  · rename_i es
    split at hf
    · rename_i hc
      unfold srtOk at hc
      simp only [Bool.and_eq_true, Bool.or_eq_true, List.all_eq_true] at hc
      obtain ⟨h1, h2, h3⟩ := hc
      cases hf
      match xs, ts with
      | [x], ⟨t, _⟩ =>
        obtain ⟨a, vs, rfl, ha, ra⟩ := t.list
        obtain ⟨its, rv, hl, hz⟩ := I.list ha
        rw [Vals.ref1 r]
        have hlen := rv.length
        have hlen2 := ra.length
        refine PySem.W.sorted_data (bs := es) (enc := id) hl.isList (each_of ra rv) (each_reads I ra rv h2) (by rw [List.map_id]; exact h1) ?_ (by omega) (fun b hb => ?_) fun out ho eo => ?_
        · rw [List.map_id]
          rcases h3 with h3 | h3
          · refine .inl fun d hd => ?_
            have := h3 d hd
            cases d <;> first
              | cases this
              | skip
            rename_i l
            cases l with
            | nil => cases this
            | cons x l => exact ⟨x, l, rfl⟩
          · refine .inr fun d hd => ?_
            have := h3 d hd
            cases d <;> first
              | exact (Bool.false_ne_true this).elim
              | exact ⟨(fun e => nomatch e), fun xs e => nomatch e⟩
        · have := h2 b hb
          unfold okE at this
          simp only [Bool.and_eq_true, decide_eq_true_eq] at this
          show X.A.units + 2 + b.depth < cLine
          omega
        · obtain ⟨ws, w1, w2⟩ := each_back eo
          obtain ⟨ep, he'⟩ := PyProof.Rows.sortedAll_at s.heap its out.toArray
          have lw := w1.length
          exact ⟨.ref _, upd H (s.heap.objs.size + 1) (.lst ws), I.laid (t' := s.toks) (fun _ _ => PyProof.Rows.sortedAll_old) (Nat.le_succ _) ⟨by omega, out, ep, w1, he'⟩, rfl, q _ _ (resLst w2 (I.hok.fresh (Nat.le_succ _)))⟩
      | _ :: _ :: _, ⟨_, t⟩ => exact t.elim
    · cases hf
  · cases hf
theorem cd_str : CallR X (.type "str") (rDs X.K strD) := by
  intro pins s σ H xs us Q I rs ⟨O, ds, rv, hO, td, hf, q⟩
  unfold strD at hf
  split at hf
  · split at hf
    · rename_i hc
      cases hf
      obtain ⟨x, rfl, t⟩ := tops1 td
      cases t.int
      exact call_str_int pins s σ H _ us Q I rs ⟨_, rfl, of_decide_eq_true hc, q _ _ (resV (.str _ (strOk_of _)))⟩
    · cases hf
  · cases hf
theorem cd_divmod : CallR X (.builtin "divmod") (rDs X.K divmodD) := by
  intro pins s σ H xs us Q I r ⟨O, ds, rv, hO, ts, hf, q⟩
  unfold divmodD at hf
  split at hf
  · obtain ⟨x, y, rfl, t, t2⟩ := tops2 ts
    split at hf
    · rename_i hc
      simp only [Bool.and_eq_true, decide_eq_true_eq] at hc
      cases t.int; cases t2.int; cases hf
      exact call_divmod pins s σ H _ us Q I r ⟨_, _, rfl, hc, fun p np => q _ _ (resTup hO (.cons (.int _) (.cons (.int _) .nil)) np)⟩
    · cases hf
  · cases hf
theorem cd_tuple : CallR X (.type "tuple") (rDs X.K tupleD) := by
  intro pins s σ H xs us Q I r ⟨O, ds, rv, hO, ts, hf, q⟩
  unfold tupleD at hf
  split at hf
  · obtain ⟨x, rfl, t⟩ := tops1 ts
    obtain ⟨a, vs, rfl, ha, ra⟩ := t.list
    cases hf
    exact call_tuple_of pins s σ H _ us Q I r ⟨a, vs, rfl, .inl ⟨ha, fun l nl => q _ _ (resTup hO ra nl)⟩⟩
  · obtain ⟨x, rfl, t⟩ := tops1 ts
    obtain ⟨a, vs, rfl, ha, ra⟩ := t.tuple
    cases hf
    refine call_tuple_of pins s σ H _ us Q I r ⟨a, vs, rfl, .inr ⟨ha, q _ _ (resV ?_)⟩⟩
    rcases t with t | ⟨_, _, t⟩
    · exact t
    · exact t.elim
  · cases hf
theorem cd_list : CallR X (.type "list") (rDs X.K listD) := by
  intro pins s σ H xs us Q I r ⟨O, ds, rv, hO, ts, hf, q⟩
  unfold listD at hf
  split at hf
  · obtain ⟨x, rfl, t⟩ := tops1 ts
    obtain ⟨a, vs, rfl, ha, ra⟩ := t.list
    cases hf
    exact call_list_of pins s σ H _ us Q I r ⟨a, vs, rfl, .inl ha, fun l nl => q _ _ (resLst ra nl)⟩
  · obtain ⟨x, rfl, t⟩ := tops1 ts
    obtain ⟨a, vs, rfl, ha, ra⟩ := t.tuple
    cases hf
    exact call_list_of pins s σ H _ us Q I r ⟨a, vs, rfl, .inr ha, fun l nl => q _ _ (resLst ra nl)⟩
  · cases hf
end
end Z
namespace Z
open PySem PySem.Spec L2
open PyProof.Rows hiding St

/-! ## evaluator functions of expressions -/
def eC (d : D) : ME := fun ρ => some (.v d, ρ)
/-- a name whose value is kept by somebody: its list is let go -/
def eVar (i : Nat) : ME := fun ρ => match ρ[i]? with
  | some (some (.v d)) => some (.v d, ρ)
  | some (some (.o d)) => some (.v d, ρ.set i (some (.v d)))
  | _ => none
def oSl (i : Nat) : MO := fun ρ => (slot ρ i).bind fun _ => some (.sl i, ρ)
def oTv (f : ME) : MO := fun ρ => (f ρ).bind fun r => some (.tv r.1.d, r.2)
def eOp1 (g : D → Option RV) (fa : MO) : ME := fun ρ => (fa ρ).bind fun r => (r.1.get r.2).bind fun x => (g x).bind fun z => some (z, r.2)
def eOp2 (g : D → D → Option RV) (fa fb : MO) : ME := fun ρ => (fa ρ).bind fun r => (fb r.2).bind fun s => (r.1.get s.2).bind fun x => (s.1.get s.2).bind fun y => (g x y).bind fun z => some (z, s.2)
def osNil : MOs := fun ρ => some ([], ρ)
def osCons (f : MO) (g : MOs) : MOs := fun ρ => (f ρ).bind fun r => (g r.2).bind fun s => some (r.1 :: s.1, s.2)
def eB (g : List D → Option RV) (fs : MOs) : ME := fun ρ => (fs ρ).bind fun r => (getAll r.2 r.1).bind fun xs => (g xs).bind fun z => some (z, r.2)
def tvs : List Op → Option (List D)
  | [] => some []
  | .tv d :: r => (tvs r).bind fun ds => some (d :: ds)
  | .sl _ :: _ => none
def eTup (fs : MOs) : ME := fun ρ => (fs ρ).bind fun r => (tvs r.1).bind fun ds => if szb ds.length then some (.v (.tuple ds), r.2) else none
def eLst (fs : MOs) : ME := fun ρ => (fs ρ).bind fun r => (tvs r.1).bind fun ds => if szb ds.length then some (.o (.list ds), r.2) else none
def truD : D → Option Bool
  | .none => some false
  | .bool b => some b
  | .int i => some (i != 0)
  | .str s => if szb s.length then some ((s.length : Int) != 0) else none
  | .list ds => some (!ds.isEmpty)
  | .tuple ds => some (!ds.isEmpty)
  | .dict ds => some (!ds.isEmpty)
/-- a test by a value's truth -/
def bTru (fo : MO) : MB := fun ρ => (fo ρ).bind fun r => (r.1.get r.2).bind fun x => (truD x).bind fun b => some (b, r.2)
def asB : RV → Option Bool
  | .v (.bool b) => some b
  | _ => none
/-- a test by a comparison -/
def bOp2 (g : D → D → Option RV) (fa fb : MO) : MB := fun ρ => (eOp2 g fa fb ρ).bind fun r => (asB r.1).bind fun b => some (b, r.2)
def bNot (f : MB) : MB := fun ρ => (f ρ).bind fun r => some (!r.1, r.2)
def bAnd (f g : MB) : MB := fun ρ => (f ρ).bind fun r => if r.1 then g r.2 else some (false, r.2)
def bOr (f g : MB) : MB := fun ρ => (f ρ).bind fun r => if r.1 then some (true, r.2) else g r.2
def eAnd (f g : ME) : ME := fun ρ => (f ρ).bind fun r => (asB r.1).bind fun b => if b then g r.2 else some (.v (.bool false), r.2)
def eOr (f g : ME) : ME := fun ρ => (f ρ).bind fun r => (asB r.1).bind fun b => if b then some (.v (.bool true), r.2) else g r.2
def eNot (f : ME) : ME := fun ρ => (f ρ).bind fun r => (asB r.1).bind fun b => some (.v (.bool (!b)), r.2)
def eIf (t : MB) (f g : ME) : ME := fun ρ => (t ρ).bind fun r => if r.1 then f r.2 else g r.2
def eChain (g g' : D → D → Option RV) (fa fb fc : MO) : ME := fun ρ => (fa ρ).bind fun r => (fb r.2).bind fun s => (r.1.get s.2).bind fun x => (s.1.get s.2).bind fun y => (g x y).bind fun z => (asB z).bind fun b =>
  if b then (fc s.2).bind fun t => (s.1.get t.2).bind fun y' => (t.1.get t.2).bind fun w => (g' y' w).bind fun u => some (u, t.2) else some (.v (.bool false), s.2)
def bChain (g g' : D → D → Option RV) (fa fb fc : MO) : MB := fun ρ => (eChain g g' fa fb fc ρ).bind fun r => (asB r.1).bind fun b => some (b, r.2)
def cut (xs : List D) (lo hi : Option Int) : List D := (xs.drop (HT.sIx xs.length 0 lo)).take (HT.sIx xs.length xs.length hi - HT.sIx xs.length 0 lo)
def slD : D → Option Int → Option Int → Option RV
  | .list xs, lo, hi => some (.o (.list (cut xs lo hi)))
  | .tuple xs, lo, hi => some (.v (.tuple (cut xs lo hi)))
  | .str z, lo, hi => if szb z.length then some (.v (.str (cutS z lo hi))) else none
  | _, _, _ => none
abbrev MI := Rho → Option (Option Int × Rho)
def iNo : MI := fun ρ => some (none, ρ)
def asI : RV → Option Int
  | .v (.int i) => some i
  | _ => none
def iSome (f : ME) : MI := fun ρ => (f ρ).bind fun r => (asI r.1).bind fun i => some (some i, r.2)
def eSl (fx : MO) (fl fh : MI) : ME := fun ρ => (fx ρ).bind fun r => (fl r.2).bind fun l => (fh l.2).bind fun h => (r.1.get h.2).bind fun x => (slD x l.1 h.1).bind fun z => some (z, h.2)

theorem bindS {α β : Type} {x : Option α} {f : α → Option β} {b : β} (h : x.bind f = some b) : ∃ a, x = some a ∧ f a = some b := Option.bind_eq_some_iff.mp h

section
variable {X : Cx} {c : Cn} {E : AS} {ρ ρ1 ρ2 ρ' : Rho} {σ : L2.St} {H H1 H2 H' : Hp} {d : D} {z : V} {rv : RV}
theorem oe_there (r : R c E ρ σ H) : ∀ b, OE ρ σ E b → ∃ o, H b = some o := fun b h => h.elim (r.eal b) fun q => r.own_there q
theorem ResB.post (s : Stp ρ σ H ρ2 σ H2) (r : R c E ρ2 σ H2) (h : ResB c.K H2 (OE ρ2 σ E) rv H' z) : PostE c E ρ σ H ρ2 H' rv z := by
  obtain ⟨g, h⟩ := h
  cases rv with
  | v d => exact ⟨s.trans g.stp, r.grow g, h⟩
  | o d =>
    obtain ⟨a, rfl, n, o⟩ := h
    refine ⟨a, rfl, s.trans g.stp, ?_, ?_, by rw [OE_add]; exact o⟩
    · cases q : H a with
      | none => rfl
      | some u =>
        obtain ⟨w, hw⟩ := s.all a u q
        rw [n] at hw; cases hw
    · obtain ⟨u, hu⟩ := o.there
      exact r.add n g hu
theorem PostE.v (h : PostE c E ρ σ H ρ' H' (.v d) z) : PostV c E ρ σ H ρ' H' d z := h
theorem asB_ok {b : Bool} (h : asB rv = some b) : rv = .v (.bool b) := by
  unfold asB at h
  split at h <;> first | (cases h; rfl) | cases h
theorem asI_ok {i : Int} (h : asI rv = some i) : rv = .v (.int i) := by
  unfold asI at h
  split at h <;> first | (cases h; rfl) | cases h
theorem tvs_ok (r : R c E ρ' σ H') : ∀ {ps : List Op} {ds : List D} {zs : List V}, tvs ps = some ds → OpsAt c E ρ' σ H' ps zs → Reps c.K H' (OE ρ' σ E) ds zs
  | [], ds, [], h, _ => by cases h; exact .nil
  | [], _, _ :: _, _, h => h.elim
  | .tv d :: ps, ds, [], h, o => o.elim
  | .tv d :: ps, ds, z :: zs, h, o => by
    obtain ⟨es, e1, e2⟩ := bindS h
    cases e2
    exact .cons o.1 (tvs_ok r e1 o.2)
  | .sl _ :: _, _, _, h, _ => by cases h
end

section
variable {X : Cx} {a b e : Expr} {es : List Expr} {fa fb fc : MO} {fs : MOs} {f g h : ME} {bf bg : MB} {pos : Pos}
theorem zpo_slot {i : Nat} (h : PE X e (tVar i)) : PE X e (tOpd X (oSl i)) := by
  refine ⟨fun pins s σ H Q I hq => h.run pins s σ H Q I ?_⟩
  obtain ⟨c, E, ρ, p, ρ', hK, hR, hf, q⟩ := hq
  obtain ⟨d, h1, h2⟩ := bindS hf
  cases h2
  have hz : ∃ z, σ[i]? = some (some z) := by
    unfold slot at h1
    split at h1
    · rename_i rv hr
      cases rv with
      | v d => obtain ⟨v, h3, _⟩ := hR.val i d hr; exact ⟨v, h3⟩
      | o d => obtain ⟨v, h3, _⟩ := hR.own i d hr; exact ⟨_, h3⟩
    · cases h1
  obtain ⟨z, hz⟩ := hz
  exact ⟨z, hz, q z H ⟨Stp.rfl, hR, hz⟩⟩
theorem zpo_tv (h : PE X e (tE X f)) : PE X e (tOpd X (oTv f)) := by
  refine ⟨fun pins s σ H Q I hq => h.run pins s σ H Q I ?_⟩
  obtain ⟨c, E, ρ, p, ρ', hK, hR, hf, q⟩ := hq
  obtain ⟨⟨rv, ρ1⟩, h1, h2⟩ := bindS hf
  cases h2
  refine ⟨c, E, ρ, rv, ρ1, hK, hR, h1, fun z H' P => q z H' ?_⟩
  obtain ⟨s1, r1, p1⟩ := P.pv hR
  exact ⟨s1, r1, p1⟩
theorem zpe_var {i : Nat} (h : PE X e (tVar i)) : PE X e (tE X (eVar i)) := by
  refine ⟨fun pins s σ H Q I hq => h.run pins s σ H Q I ?_⟩
  obtain ⟨c, E, ρ, p, ρ', hK, hR, hf, q⟩ := hq
  unfold eVar at hf
  split at hf
  · rename_i d hr
    cases hf
    obtain ⟨v, h1, h2⟩ := hR.val i d hr
    exact ⟨v, h1, q v H ⟨Stp.rfl, hR, h2⟩⟩
  · rename_i d hr
    cases hf
    obtain ⟨h1, h2, v, h3, h4⟩ := hR.freeze hr
    exact ⟨v, h3, q v H ⟨h2, h1, h4⟩⟩
  · cases hf
theorem zpe_const {v : V} {d : D} (h : PE X e (tC v)) (r : ∀ H O, Rep X.K H O d v) : PE X e (tE X (eC d)) := by
  refine ⟨fun pins s σ H Q I hq => h.run pins s σ H Q I ?_⟩
  obtain ⟨c, E, ρ, p, ρ', hK, hR, hf, q⟩ := hq
  cases hf
  exact q v H ⟨Stp.rfl, hR, by rw [hK]; exact r _ _⟩
theorem zpa_nil : PA X [] (tOps X osNil) := by
  refine ⟨fun pos pins s σ H Q I hq => pa_nil.run pos pins s σ H Q I ?_⟩
  obtain ⟨c, E, ρ, p, ρ', hK, hR, hf, q⟩ := hq
  cases hf
  exact q [] H ⟨Stp.rfl, hR, True.intro⟩
theorem zpa_cons (ha : PE X e (tOpd X fa)) (hr : PA X es (tOps X fs)) (hs : starEach (e :: es) X.env = (false, eval e X.env) :: starEach es X.env) : PA X (e :: es) (tOps X (osCons fa fs)) := by
  refine ⟨fun pos pins s σ H Q I hq => (pa_cons ha hr hs).run pos pins s σ H Q I ?_⟩
  obtain ⟨c, E, ρ, p, ρ', hK, hR, hf, q⟩ := hq
  obtain ⟨⟨p1, ρ1⟩, h1, hf⟩ := bindS hf
  obtain ⟨⟨p2, ρ2⟩, h2, hf⟩ := bindS hf
  cases hf
  refine ⟨c, E, ρ, p1, ρ1, hK, hR, h1, fun x H1 P1 => ⟨c, E, ρ1, p2, ρ2, hK, P1.2.1, h2, fun xs H2 P2 => q _ H2 ⟨P1.1.trans P2.1, P2.2.1, ?_, P2.2.2⟩⟩⟩
  obtain ⟨_, _, P3⟩ := P1
  cases p1 with
  | tv d => exact Rep.mono P2.1.keeps P3
  | sl i => exact P3
theorem op1_read {g : D → Option RV} {σ : L2.St} {H : Hp} {Q : VK} (hq : tE X (eOp1 g fa) σ H Q) : tUn (rD1 X.K g) (tOpd X fa) σ H Q := by
  obtain ⟨c, E, ρ, rv, ρ', hK, hR, hf, q⟩ := hq
  obtain ⟨⟨p1, ρ1⟩, h1, hf⟩ := bindS hf
  obtain ⟨x, h2, hf⟩ := bindS hf
  obtain ⟨y, h3, hf⟩ := bindS hf
  cases hf
  refine ⟨c, E, ρ, p1, ρ1, hK, hR, h1, fun z H1 P1 => ⟨OE ρ1 σ E, x, rv, oe_there P1.2.1, ?_, h3, fun w H' rb => q w H' (ResB.post P1.1 P1.2.1 (by rw [hK]; exact rb))⟩⟩
  rw [← hK]; exact P1.top Stp.rfl P1.2.1 h2
theorem op2_read {g : D → D → Option RV} {σ : L2.St} {H : Hp} {Q : VK} (hq : tE X (eOp2 g fa fb) σ H Q) : tOp (rD2 X.K g) (tOpd X fa) (tOpd X fb) σ H Q := by
  obtain ⟨c, E, ρ, rv, ρ', hK, hR, hf, q⟩ := hq
  obtain ⟨⟨p1, ρ1⟩, h1, hf⟩ := bindS hf
  obtain ⟨⟨p2, ρ2⟩, h2, hf⟩ := bindS hf
  obtain ⟨x, h3, hf⟩ := bindS hf
  obtain ⟨y, h4, hf⟩ := bindS hf
  obtain ⟨w, h5, hf⟩ := bindS hf
  cases hf
  refine ⟨c, E, ρ, p1, ρ1, hK, hR, h1, fun z H1 P1 => ⟨c, E, ρ1, p2, ρ2, hK, P1.2.1, h2, fun z2 H2 P2 => ⟨OE ρ2 σ E, x, y, rv, oe_there P2.2.1, ?_, ?_, h5, fun w H' rb => q w H' (ResB.post (P1.1.trans P2.1) P2.2.1 (by rw [hK]; exact rb))⟩⟩⟩
  · rw [← hK]; exact P1.top P2.1 P2.2.1 h3
  · rw [← hK]; exact P2.top Stp.rfl P2.2.1 h4
theorem zpe_un {op : UnaryOp} {g : D → Option RV} (ho : UnR X (unaryOp op) (rD1 X.K g)) (ha : PE X a (tOpd X fa)) : PE X (.UnaryOp op a pos) (tE X (eOp1 g fa)) :=
  ⟨fun pins s σ H Q I hq => (pe_un ho ha).run pins s σ H Q I (op1_read hq)⟩
theorem zpe_bin {op : Operator} {g : D → D → Option RV} (ho : OpR X (binaryOp op) (rD2 X.K g)) (ha : PE X a (tOpd X fa)) (hb : PE X b (tOpd X fb)) : PE X (.BinOp a op b pos) (tE X (eOp2 g fa fb)) :=
  ⟨fun pins s σ H Q I hq => (pe_op ho ha hb).run pins s σ H Q I (op2_read hq)⟩
theorem zpe_cmp {op : CmpOp} {g : D → D → Option RV} (ho : OpR X (compareOp op) (rD2 X.K g)) (ha : PE X a (tOpd X fa)) (hb : PE X b (tOpd X fb)) (hm : behindInMarks op b = false) : PE X (.Compare a [op] [b] pos) (tE X (eOp2 g fa fb)) :=
  ⟨fun pins s σ H Q I hq => (pe_cmpR ho ha hb hm).run pins s σ H Q I (op2_read hq)⟩
theorem zpe_ix (hu : X.A.units + 66 < cLine) (ha : PE X a (tOpd X fa)) (hb : PE X b (tOpd X fb)) (hs : PlainIx b) : PE X (.Subscript a b pos) (tE X (eOp2 ixD fa fb)) :=
  ⟨fun pins s σ H Q I hq => (pe_ix (ixd hu) ha hb hs).run pins s σ H Q I (op2_read hq)⟩
theorem bop2_read {g : D → D → Option RV} {σ : L2.St} {H : Hp} {Q : Bool → Hp → Prop} (hq : tT X (bOp2 g fa fb) σ H Q) : tTest (tOp (rD2 X.K g) (tOpd X fa) (tOpd X fb)) σ H Q := by
  obtain ⟨c, E, ρ, k, ρ', hK, hR, hf, q⟩ := hq
  obtain ⟨⟨rv, ρ1⟩, h1, hf⟩ := bindS hf
  obtain ⟨k', h2, hf⟩ := bindS hf
  cases hf
  refine op2_read ⟨c, E, ρ, rv, ρ1, hK, hR, h1, fun z H' P => ?_⟩
  have e : rv = .v (.bool k) := asB_ok h2
  subst e
  obtain ⟨s1, r1, p1⟩ := P.v
  cases p1
  exact ⟨k, rfl, q H' ⟨s1, r1⟩⟩
theorem zpt_cmp {op : CmpOp} {g : D → D → Option RV} (ho : OpR X (compareOp op) (rD2 X.K g)) (ha : PE X a (tOpd X fa)) (hb : PE X b (tOpd X fb)) (hm : behindInMarks op b = false) : PT X (.Compare a [op] [b] pos) (tT X (bOp2 g fa fb)) :=
  ⟨fun pins s σ H Q I hq => (pt_cmpR ho ha hb hm).run pins s σ H Q I (bop2_read hq)⟩
theorem tru_top {K : PySem.W.Frag} {H : Hp} {O : AS} {d : D} {x : V} {k : Bool} (t : Top K H O d x) (h : truD d = some k) : TruV K x H k := by
  unfold truD at h
  have emp : ∀ {α β : Type} {xs : List α} {ys : List β}, xs.length = ys.length → (!xs.isEmpty) = !ys.isEmpty := fun {α β xs ys} h => by
    cases xs <;> cases ys <;> simp_all
  split at h
  · cases t.non; cases h; rfl
  · cases t.bl; cases h; rfl
  · cases t.int; cases h; rfl
  · split at h
    · rename_i hz
      cases t.str; cases h; exact ⟨szb_ok hz, rfl⟩
    · cases h
  · obtain ⟨a, vs, rfl, ha, ra⟩ := t.list
    cases h; exact .inl ⟨vs, ha, emp ra.length⟩
  · obtain ⟨a, vs, rfl, ha, ra⟩ := t.tuple
    cases h; exact .inr (.inl ⟨vs, ha, emp ra.length⟩)
  · obtain ⟨a, vs, rfl, ha, ra⟩ := t.dict
    cases h; exact .inr (.inr ⟨vs, ha, emp ra.length⟩)
theorem zpt_tru (ha : PE X a (tOpd X fa)) (he : ∀ whole, isTrue a X.env whole = (do let v ← whole; standAt a.pos; holding [v] (truthy v))) : PT X a (tT X (bTru fa)) := by
  refine ⟨fun pins s σ H Q I hq => (pt_truth ha he).run pins s σ H Q I ?_⟩
  obtain ⟨c, E, ρ, k, ρ', hK, hR, hf, q⟩ := hq
  obtain ⟨⟨p1, ρ1⟩, h1, hf⟩ := bindS hf
  obtain ⟨x, h2, hf⟩ := bindS hf
  obtain ⟨k', h3, hf⟩ := bindS hf
  cases hf
  refine ⟨c, E, ρ, p1, ρ1, hK, hR, h1, fun z H1 P1 => ⟨k, ?_, q H1 ⟨P1.1, P1.2.1⟩⟩⟩
  have t := P1.top Stp.rfl P1.2.1 h2
  rw [hK] at t
  exact tru_top t h3
theorem zpt_not (ha : PT X a (tT X bf)) : PT X (.UnaryOp .Not a pos) (tT X (bNot bf)) := by
  refine ⟨fun pins s σ H Q I hq => (pt_not ha).run pins s σ H Q I ?_⟩
  obtain ⟨c, E, ρ, k, ρ', hK, hR, hf, q⟩ := hq
  obtain ⟨⟨k1, ρ1⟩, h1, hf⟩ := bindS hf
  cases hf
  exact ⟨c, E, ρ, k1, ρ1, hK, hR, h1, fun H1 P1 => q H1 P1⟩
theorem zpw_and (ha : PT X a (tT X bf)) (hb : PW X (.BoolOp .And (b :: es) pos) (tT X bg)) : PW X (.BoolOp .And (a :: b :: es) pos) (tT X (bAnd bf bg)) := by
  refine ⟨fun whole pins s σ H Q I hq => (pw_and ha hb).run whole pins s σ H Q I ?_⟩
  obtain ⟨c, E, ρ, k, ρ', hK, hR, hf, q⟩ := hq
  obtain ⟨⟨k1, ρ1⟩, h1, hf⟩ := bindS hf
  refine ⟨c, E, ρ, k1, ρ1, hK, hR, h1, fun H1 P1 => ?_⟩
  cases k1 with
  | true => exact iteT ⟨c, E, ρ1, k, ρ', hK, P1.2, hf, fun H2 P2 => q H2 ⟨P1.1.trans P2.1, P2.2⟩⟩
  | false =>
    cases hf
    exact iteF (q H1 P1)
theorem zpw_or (ha : PT X a (tT X bf)) (hb : PW X (.BoolOp .Or (b :: es) pos) (tT X bg)) : PW X (.BoolOp .Or (a :: b :: es) pos) (tT X (bOr bf bg)) := by
  refine ⟨fun whole pins s σ H Q I hq => (pw_or ha hb).run whole pins s σ H Q I ?_⟩
  obtain ⟨c, E, ρ, k, ρ', hK, hR, hf, q⟩ := hq
  obtain ⟨⟨k1, ρ1⟩, h1, hf⟩ := bindS hf
  refine ⟨c, E, ρ, k1, ρ1, hK, hR, h1, fun H1 P1 => ?_⟩
  cases k1 with
  | false => exact iteF ⟨c, E, ρ1, k, ρ', hK, P1.2, hf, fun H2 P2 => q H2 ⟨P1.1.trans P2.1, P2.2⟩⟩
  | true =>
    cases hf
    exact iteT (q H1 P1)
theorem bl_read {k : Bool} {ρ ρ1 : Rho} {E : AS} {c : Cn} {σ : L2.St} {H H' : Hp} {z : V} {rv : RV} (h : asB rv = some k) (P : PostE c E ρ σ H ρ1 H' rv z) : z = .bl k ∧ Stp ρ σ H ρ1 σ H' ∧ R c E ρ1 σ H' := by
  have e := asB_ok h
  subst e
  obtain ⟨s1, r1, p1⟩ := P.v
  cases p1
  exact ⟨rfl, s1, r1⟩
theorem PostE.from {ρ ρ1 ρ2 : Rho} {E : AS} {c : Cn} {σ : L2.St} {H H1 H2 : Hp} {z : V} {rv : RV} (s : Stp ρ σ H ρ1 σ H1) (h : PostE c E ρ1 σ H1 ρ2 H2 rv z) : PostE c E ρ σ H ρ2 H2 rv z := by
  cases rv with
  | v d => exact ⟨s.trans h.1, h.2⟩
  | o d =>
    obtain ⟨a, rfl, s2, n, r⟩ := h
    refine ⟨a, rfl, s.trans s2, ?_, r⟩
    cases q : H a with
    | none => rfl
    | some u =>
      obtain ⟨w, hw⟩ := s.all a u q
      rw [n] at hw; cases hw
theorem zpe_and (ha : PE X a (tE X f)) (hb : PE X (.BoolOp .And (b :: es) pos) (tE X g)) : PE X (.BoolOp .And (a :: b :: es) pos) (tE X (eAnd f g)) := by
  refine ⟨fun pins s σ H Q I hq => (pe_and ha hb).run pins s σ H Q I ?_⟩
  obtain ⟨c, E, ρ, rv, ρ', hK, hR, hf, q⟩ := hq
  obtain ⟨⟨r1, ρ1⟩, h1, hf⟩ := bindS hf
  obtain ⟨k, h2, hf⟩ := bindS hf
  refine ⟨c, E, ρ, r1, ρ1, hK, hR, h1, fun z H1 P1 => ?_⟩
  obtain ⟨rfl, s1, R1⟩ := bl_read h2 P1
  refine ⟨k, rfl, ?_⟩
  cases k with
  | true => exact iteT ⟨c, E, ρ1, rv, ρ', hK, R1, hf, fun z2 H2 P2 => q z2 H2 (P2.from s1)⟩
  | false =>
    cases hf
    exact iteF (q _ H1 ⟨s1, R1, .bl false⟩)
theorem zpe_or (ha : PE X a (tE X f)) (hb : PE X (.BoolOp .Or (b :: es) pos) (tE X g)) : PE X (.BoolOp .Or (a :: b :: es) pos) (tE X (eOr f g)) := by
  refine ⟨fun pins s σ H Q I hq => (pe_or ha hb).run pins s σ H Q I ?_⟩
  obtain ⟨c, E, ρ, rv, ρ', hK, hR, hf, q⟩ := hq
  obtain ⟨⟨r1, ρ1⟩, h1, hf⟩ := bindS hf
  obtain ⟨k, h2, hf⟩ := bindS hf
  refine ⟨c, E, ρ, r1, ρ1, hK, hR, h1, fun z H1 P1 => ?_⟩
  obtain ⟨rfl, s1, R1⟩ := bl_read h2 P1
  refine ⟨k, rfl, ?_⟩
  cases k with
  | false => exact iteF ⟨c, E, ρ1, rv, ρ', hK, R1, hf, fun z2 H2 P2 => q z2 H2 (P2.from s1)⟩
  | true =>
    cases hf
    exact iteT (q _ H1 ⟨s1, R1, .bl true⟩)
theorem zpe_not (ha : PE X a (tE X f)) : PE X (.UnaryOp .Not a pos) (tE X (eNot f)) := by
  refine ⟨fun pins s σ H Q I hq => (pe_not ha).run pins s σ H Q I ?_⟩
  obtain ⟨c, E, ρ, rv, ρ', hK, hR, hf, q⟩ := hq
  obtain ⟨⟨r1, ρ1⟩, h1, hf⟩ := bindS hf
  obtain ⟨k, h2, hf⟩ := bindS hf
  refine ⟨c, E, ρ, r1, ρ1, hK, hR, h1, fun z H1 P1 => ?_⟩
  obtain ⟨rfl, s1, R1⟩ := bl_read h2 P1
  cases hf
  exact ⟨k, rfl, q _ H1 ⟨s1, R1, .bl _⟩⟩
theorem zpe_if {t : Expr} (ht : PT X t (tT X bf)) (ha : PE X a (tE X f)) (hb : PE X b (tE X g)) : PE X (.IfExp t a b pos) (tE X (eIf bf f g)) := by
  refine ⟨fun pins s σ H Q I hq => (pe_ifExp ht ha hb).run pins s σ H Q I ?_⟩
  obtain ⟨c, E, ρ, rv, ρ', hK, hR, hf, q⟩ := hq
  obtain ⟨⟨k, ρ1⟩, h1, hf⟩ := bindS hf
  refine ⟨c, E, ρ, k, ρ1, hK, hR, h1, fun H1 P1 => ?_⟩
  cases k with
  | true => exact iteT ⟨c, E, ρ1, rv, ρ', hK, P1.2, hf, fun z2 H2 P2 => q z2 H2 (P2.from P1.1)⟩
  | false => exact iteF ⟨c, E, ρ1, rv, ρ', hK, P1.2, hf, fun z2 H2 P2 => q z2 H2 (P2.from P1.1)⟩
theorem chain_read {c' : Expr} {g g' : D → D → Option RV} {σ : L2.St} {H : Hp} {Q : VK} (hq : tE X (eChain g g' fa fb fc) σ H Q) : tChain (rD2 X.K g) (rD2 X.K g') (tOpd X fa) (tOpd X fb) (tOpd X fc) σ H Q := by
  obtain ⟨c, E, ρ, rv, ρ', hK, hR, hf, q⟩ := hq
  obtain ⟨⟨p1, ρ1⟩, h1, hf⟩ := bindS hf
  obtain ⟨⟨p2, ρ2⟩, h2, hf⟩ := bindS hf
  obtain ⟨x, h3, hf⟩ := bindS hf
  obtain ⟨y, h4, hf⟩ := bindS hf
  obtain ⟨w, h5, hf⟩ := bindS hf
  obtain ⟨k, h6, hk⟩ := bindS hf
  refine ⟨c, E, ρ, p1, ρ1, hK, hR, h1, fun z H1 P1 => ⟨c, E, ρ1, p2, ρ2, hK, P1.2.1, h2, fun z2 H2 P2 => ⟨OE ρ2 σ E, x, y, w, oe_there P2.2.1, ?_, ?_, h5, fun z3 H3 rb => ?_⟩⟩⟩
  · rw [← hK]; exact P1.top P2.1 P2.2.1 h3
  · rw [← hK]; exact P2.top Stp.rfl P2.2.1 h4
  · have P3 := ResB.post (P1.1.trans P2.1) P2.2.1 (by rw [hK]; exact rb)
    obtain ⟨rfl, s3, R3⟩ := bl_read h6 P3
    have e := asB_ok h6
    subst e
    have g3 : Stp ρ2 σ H2 ρ2 σ H3 := (show Grow H2 H3 from rb.1).stp
    refine ⟨k, rfl, ?_⟩
    cases k with
    | false =>
      rw [if_neg Bool.false_ne_true] at hk
      cases hk
      exact iteF (q _ H3 ⟨s3, R3, .bl false⟩)
    | true =>
      rw [if_pos rfl] at hk
      obtain ⟨⟨p4, ρ4⟩, h7, hk⟩ := bindS hk
      obtain ⟨y', h8, hk⟩ := bindS hk
      obtain ⟨w', h9, hk⟩ := bindS hk
      obtain ⟨u, h10, hk⟩ := bindS hk
      cases hk
      refine iteT ⟨c, E, ρ2, p4, ρ4, hK, R3, h7, fun z4 H4 P4 => ⟨OE ρ4 σ E, y', w', rv, oe_there P4.2.1, ?_, ?_, h10, fun z5 H5 rb5 => q z5 H5 (ResB.post (s3.trans P4.1) P4.2.1 (by rw [hK]; exact rb5))⟩⟩
      · rw [← hK]; exact P2.top (g3.trans P4.1) P4.2.1 h8
      · rw [← hK]; exact P4.top Stp.rfl P4.2.1 h9
theorem zpe_chain {c' : Expr} {op op' : CmpOp} {g g' : D → D → Option RV} (ho : OpR X (compareOp op) (rD2 X.K g)) (ho' : OpR X (compareOp op') (rD2 X.K g')) (ha : PE X a (tOpd X fa)) (hb : PE X b (tOpd X fb)) (hc : PE X c' (tOpd X fc))
    (hm : lastMarks [op, op'] [b, c'] = false) : PE X (.Compare a [op, op'] [b, c'] pos) (tE X (eChain g g' fa fb fc)) :=
  ⟨fun pins s σ H Q I hq => (pe_chain ho ho' ha hb hc hm).run pins s σ H Q I (chain_read (c' := c') hq)⟩
theorem zpt_chain {c' : Expr} {op op' : CmpOp} {g g' : D → D → Option RV} (ho : OpR X (compareOp op) (rD2 X.K g)) (ho' : OpR X (compareOp op') (rD2 X.K g')) (ha : PE X a (tOpd X fa)) (hb : PE X b (tOpd X fb)) (hc : PE X c' (tOpd X fc))
    (hm : lastMarks [op, op'] [b, c'] = false) : PT X (.Compare a [op, op'] [b, c'] pos) (tT X (bChain g g' fa fb fc)) := by
  refine ⟨fun pins s σ H Q I hq => (pt_chain ho ho' ha hb hc hm).run pins s σ H Q I ?_⟩
  obtain ⟨c, E, ρ, k, ρ', hK, hR, hf, q⟩ := hq
  obtain ⟨⟨rv, ρ1⟩, h1, hf⟩ := bindS hf
  obtain ⟨k', h2, hf⟩ := bindS hf
  cases hf
  refine chain_read (c' := c') ⟨c, E, ρ, rv, ρ1, hK, hR, h1, fun z H' P => ?_⟩
  obtain ⟨rfl, s1, R1⟩ := bl_read h2 P
  exact ⟨k, rfl, q H' ⟨s1, R1⟩⟩
theorem tb_read {gb : List D → Option RV} {σ : L2.St} {H : Hp} {Q : VK} (hq : tE X (eB gb fs) σ H Q) : tCB (rDs X.K gb) (tOps X fs) σ H Q := by
  obtain ⟨c, E, ρ, rv, ρ', hK, hR, hf, q⟩ := hq
  obtain ⟨⟨ps, ρ1⟩, h1, hf⟩ := bindS hf
  obtain ⟨xs, h2, hf⟩ := bindS hf
  obtain ⟨w, h3, hf⟩ := bindS hf
  cases hf
  refine ⟨c, E, ρ, ps, ρ1, hK, hR, h1, fun zs H1 P1 => ⟨OE ρ1 σ E, xs, rv, oe_there P1.2.1, ?_, h3, fun z H' rb => q z H' (ResB.post P1.1 P1.2.1 (by rw [hK]; exact rb))⟩⟩
  rw [← hK]; exact P1.2.2.tops P1.2.1 h2
theorem zpe_tup {x1 : Nat} (ha : PA X es (tOps X fs)) : PE X (.Tuple es x1 pos) (tE X (eTup fs)) := by
  refine ⟨fun pins s σ H Q I hq => (pe_tup ha).run pins s σ H Q I ?_⟩
  obtain ⟨c, E, ρ, rv, ρ', hK, hR, hf, q⟩ := hq
  obtain ⟨⟨ps, ρ1⟩, h1, hf⟩ := bindS hf
  obtain ⟨ds, h2, hf⟩ := bindS hf
  split at hf
  · rename_i hz
    cases hf
    refine ⟨c, E, ρ, ps, ρ1, hK, hR, h1, fun zs H1 P1 => ?_⟩
    have r := tvs_ok P1.2.1 h2 P1.2.2
    exact ⟨by rw [← r.length]; exact szb_ok hz, fun p np => q _ _ (ResB.post P1.1 P1.2.1 (resTup (oe_there P1.2.1) r np))⟩
  · cases hf
theorem zpe_lst (ha : PA X es (tOps X fs)) : PE X (.List es pos) (tE X (eLst fs)) := by
  refine ⟨fun pins s σ H Q I hq => (pe_lst ha).run pins s σ H Q I ?_⟩
  obtain ⟨c, E, ρ, rv, ρ', hK, hR, hf, q⟩ := hq
  obtain ⟨⟨ps, ρ1⟩, h1, hf⟩ := bindS hf
  obtain ⟨ds, h2, hf⟩ := bindS hf
  split at hf
  · rename_i hz
    cases hf
    refine ⟨c, E, ρ, ps, ρ1, hK, hR, h1, fun zs H1 P1 => ?_⟩
    have r := tvs_ok P1.2.1 h2 P1.2.2
    exact ⟨by rw [← r.length]; exact szb_ok hz, fun p np => q _ _ (ResB.post P1.1 P1.2.1 (resLst r np))⟩
  · cases hf
/-! slices -/
def tI (X : Cx) (f : MI) : L2.TO := fun σ H Q => ∃ c E ρ o ρ', c.K = X.K ∧ R c E ρ σ H ∧ f ρ = some (o, ρ') ∧ ∀ H', Stp ρ σ H ρ' σ H' ∧ R c E ρ' σ H' → Q o H'
theorem zpi_no : PO X none (tI X iNo) := by
  refine ⟨fun pins s σ H Q I hq => po_none.run pins s σ H Q I ?_⟩
  obtain ⟨c, E, ρ, o, ρ', hK, hR, hf, q⟩ := hq
  cases hf
  exact q H ⟨Stp.rfl, hR⟩
theorem zpi_some (ha : PE X a (tE X f)) : PO X (some a) (tI X (iSome f)) := by
  refine ⟨fun pins s σ H Q I hq => (po_some ha).run pins s σ H Q I ?_⟩
  obtain ⟨c, E, ρ, o, ρ', hK, hR, hf, q⟩ := hq
  obtain ⟨⟨rv, ρ1⟩, h1, hf⟩ := bindS hf
  obtain ⟨i, h2, hf⟩ := bindS hf
  cases hf
  have e := asI_ok h2
  subst e
  refine ⟨c, E, ρ, _, ρ1, hK, hR, h1, fun z H1 P1 => ?_⟩
  obtain ⟨s1, r1, p1⟩ := P1.v
  cases p1
  exact ⟨i, rfl, q H1 ⟨s1, r1⟩⟩
theorem cut_reps {K : PySem.W.Frag} {H : Hp} {O : AS} {ds : List D} {vs : List V} {lo hi : Option Int} (r : Reps K H O ds vs) : Reps K H O (cut ds lo hi) (cutV vs lo hi) := by
  unfold cut cutV
  rw [r.length]
  exact (r.drop _).take _
theorem strOk_cut {z : Str} {lo hi : Option Int} (h : PyData.strOk z = true) : PyData.strOk (cutS z lo hi) = true := by
  rw [strOk_iff] at *
  intro c hc
  have e : (cutS z lo hi).cps.toList = (z.cps.toList.drop (HT.sIx z.length 0 lo)).take (HT.sIx z.length z.length hi - HT.sIx z.length 0 lo) := by unfold cutS; rw [List.toList_toArray]
  rw [e] at hc
  exact h c (List.mem_of_mem_drop (List.mem_of_mem_take hc))
def rSlD (K : PySem.W.Frag) : V → Option Int → Option Int → Hp → VK → Prop := fun x lo hi H Q => ∃ (O : AS) (d : D) (rv : RV), (∀ b, O b → ∃ o, H b = some o) ∧ Top K H O d x ∧ slD d lo hi = some rv ∧ ∀ z H', ResB K H O rv H' z → Q z H'
theorem cut_whole {K : PySem.W.Frag} {H : Hp} {O : AS} {xs : List D} {vs : List V} {lo hi : Option Int} {a : Addr} (t : Top K H O (.tuple xs) (.ref a)) (ra : Reps K H O xs vs)
    (hw : HT.sIx vs.length 0 lo = 0 ∧ HT.sIx vs.length vs.length hi = vs.length) : Rep K H O (.tuple (cut xs lo hi)) (.ref a) := by
  have e : cut xs lo hi = xs := by
    unfold cut
    rw [ra.length, hw.1, hw.2, List.drop_zero, Nat.sub_zero, ← ra.length, List.take_length]
  rw [e]
  rcases t with t | ⟨_, _, t⟩
  · exact t
  · exact t.elim
theorem sld : SlR X (rSlD X.K) := by
  intro pins s σ H x v vl vu lo hi sl Q I rx hs pl pu ⟨O, d, rv, hO, t, hf, q⟩
  unfold slD at hf
  split at hf
  · obtain ⟨a, vs, rfl, ha, ra⟩ := t.list
    cases hf
    exact sl_list pins s σ H _ v vl vu _ _ sl Q I rx hs pl pu ⟨a, vs, rfl, ha, fun p np => q _ _ (resLst (cut_reps ra) np)⟩
  · obtain ⟨a, vs, rfl, ha, ra⟩ := t.tuple
    cases hf
    exact sl_tupA pins s σ H _ v vl vu _ _ sl Q I rx hs pl pu ⟨a, vs, rfl, ha, fun hw => q _ _ (resV (cut_whole t ra hw)), fun _ p np => q _ _ (resTup hO (cut_reps ra) np)⟩
  · split at hf
    · rename_i hz
      have sk := t.strOk
      cases t.str; cases hf
      exact sl_str pins s σ H _ v vl vu _ _ sl Q I rx hs pl pu ⟨_, rfl, szb_ok hz, q _ _ (resV (.str _ (strOk_cut sk)))⟩
    · cases hf
  · cases hf
theorem zpe_slice {lo hi : Option Expr} {p2 : Pos} {fl fh : MI} (ha : PE X a (tOpd X fa)) (hl : PO X lo (tI X fl)) (hh : PO X hi (tI X fh)) : PE X (.Subscript a (.Slice lo hi none p2) pos) (tE X (eSl fa fl fh)) := by
  refine ⟨fun pins s σ H Q I hq => (pe_slice sld ha hl hh).run pins s σ H Q I ?_⟩
  obtain ⟨c, E, ρ, rv, ρ', hK, hR, hf, q⟩ := hq
  obtain ⟨⟨p1, ρ1⟩, h1, hf⟩ := bindS hf
  obtain ⟨⟨l, ρ2⟩, h2, hf⟩ := bindS hf
  obtain ⟨⟨u, ρ3⟩, h3, hf⟩ := bindS hf
  obtain ⟨x, h4, hf⟩ := bindS hf
  obtain ⟨w, h5, hf⟩ := bindS hf
  cases hf
  refine ⟨c, E, ρ, p1, ρ1, hK, hR, h1, fun z H1 P1 => ⟨c, E, ρ1, l, ρ2, hK, P1.2.1, h2, fun H2 P2 => ⟨c, E, ρ2, u, ρ3, hK, P2.2, h3, fun H3 P3 => ?_⟩⟩⟩
  refine ⟨OE ρ3 σ E, x, rv, oe_there P3.2, ?_, h5, fun z H' rb => q z H' (ResB.post (P1.1.trans (P2.1.trans P3.1)) P3.2 (by rw [hK]; exact rb))⟩
  rw [← hK]; exact P1.top (P2.1.trans P3.1) P3.2 h4
end
end Z
namespace Z
open PySem PySem.Spec L2
open PyProof.Rows hiding St

/-! ## stores -/
section
variable {c : Cn} {E E' : AS} {ρ ρ1 ρ' : Rho} {σ σ' : L2.St} {H H1 H' : Hp} {d : D} {z : V} {a : Addr} {i : Nat}
theorem get_set {α : Type} {l : List α} {i j : Nat} {x y : α} (h : (l.set i x)[j]? = some y) : (j = i ∧ x = y ∧ i < l.length) ∨ (j ≠ i ∧ l[j]? = some y) := by
  by_cases e : j = i
  · subst e
    by_cases hl : j < l.length
    · rw [List.getElem?_set_self hl] at h
      exact .inl ⟨rfl, Option.some.inj h, hl⟩
    · rw [List.getElem?_eq_none (by simpa using hl)] at h; cases h
  · rw [List.getElem?_set_ne (Ne.symm e)] at h
    exact .inr ⟨e, h⟩
/-- a slot gets a plain value -/
theorem R.setV (r : R c E ρ σ H) (v : Rep c.K H (OE ρ σ E) d z) (np : i ∉ c.pr) : R c E (ρ.set i (some (.v d))) (σ.set i (some z)) H ∧ Stp ρ σ H (ρ.set i (some (.v d))) (σ.set i (some z)) H := by
  have sub : ∀ (j : Nat) (e : D), (ρ.set i (some (.v d)))[j]? = some (some (.o e)) → j ≠ i ∧ ρ[j]? = some (some (.o e)) := fun j e q => by
    rcases get_set q with ⟨_, q, _⟩ | q
    · cases q
    · exact q
  have sg : ∀ {j : Nat}, j ≠ i → (σ.set i (some z))[j]? = σ[j]? := fun h => List.getElem?_set_ne (Ne.symm h)
  have osub : ∀ b, OwnS (ρ.set i (some (.v d))) (σ.set i (some z)) b → OwnS ρ σ b := fun b ⟨j, e, q1, q2⟩ => by
    obtain ⟨h1, h2⟩ := sub j e q1
    rw [sg h1] at q2
    exact ⟨j, e, h2, q2⟩
  have k : Keeps H (OE ρ σ E) H (OE (ρ.set i (some (.v d))) (σ.set i (some z)) E) := fun b o q n => ⟨q, fun y => n (y.elim .inl fun y => .inr (osub b y))⟩
  refine ⟨⟨by rw [List.length_set, List.length_set]; exact r.len, fun j e q => ?_, fun j e q => ?_, fun j l e f x q1 q2 h1 h2 => ?_, r.eal, r.al, fun j hj => ?_⟩, fun _ _ h _ => h, fun _ _ h => ⟨_, h⟩, fun b _ _ q => osub b q⟩
  · rcases get_set q with ⟨e1, e2, e3⟩ | ⟨e1, e2⟩
    · subst e1
      cases e2
      exact ⟨z, List.getElem?_set_self (by rw [← r.len]; exact e3), v.mono k⟩
    · obtain ⟨v, h1, h2⟩ := r.val j e e2
      exact ⟨v, by rw [sg e1]; exact h1, h2.mono k⟩
  · obtain ⟨h1, h2⟩ := sub j e q
    obtain ⟨x, h3, h4, h5⟩ := r.own j e h2
    exact ⟨x, by rw [sg h1]; exact h3, h4.mono k (fun _ h => h), h5⟩
  · obtain ⟨a1, a2⟩ := sub j e q1
    obtain ⟨b1, b2⟩ := sub l f q2
    rw [sg a1] at h1
    rw [sg b1] at h2
    exact r.inj j l e f x a2 b2 h1 h2
  · rw [sg (fun e => np (e ▸ hj))]
    exact r.prt j hj
/-- a slot gets a new list -/
theorem R.setO (r : R c (Add E a) ρ σ H) (v : OwnAt c.K H (OE ρ σ (Add E a)) d a) (nE : ¬ E a) (n0 : c.H0 a = none) (np : i ∉ c.pr) :
    R c E (ρ.set i (some (.o d))) (σ.set i (some (.ref a))) H ∧ ∀ b, OwnS (ρ.set i (some (.o d))) (σ.set i (some (.ref a))) b → b = a ∨ OwnS ρ σ b := by
  have sg : ∀ {j : Nat}, j ≠ i → (σ.set i (some (.ref a)))[j]? = σ[j]? := fun h => List.getElem?_set_ne (Ne.symm h)
  have own' : ∀ (j : Nat) (e : D) (b : Addr), (ρ.set i (some (.o d)))[j]? = some (some (.o e)) → (σ.set i (some (.ref a)))[j]? = some (some (.ref b)) → (j = i ∧ e = d ∧ b = a) ∨ (j ≠ i ∧ ρ[j]? = some (some (.o e)) ∧ σ[j]? = some (some (.ref b))) := fun j e b q1 q2 => by
    rcases get_set q1 with ⟨e1, e2, e3⟩ | ⟨e1, e2⟩
    · subst e1
      rw [List.getElem?_set_self (by rw [← r.len]; exact e3)] at q2
      cases e2; cases q2
      exact .inl ⟨rfl, rfl, rfl⟩
    · rw [sg e1] at q2
      exact .inr ⟨e1, e2, q2⟩
  have osub : ∀ b, OwnS (ρ.set i (some (.o d))) (σ.set i (some (.ref a))) b → b = a ∨ OwnS ρ σ b := fun b ⟨j, e, q1, q2⟩ => by
    rcases own' j e b q1 q2 with ⟨_, _, q⟩ | ⟨_, q3, q4⟩
    · exact .inl q
    · exact .inr ⟨j, e, q3, q4⟩
  have k : Keeps H (OE ρ σ (Add E a)) H (OE (ρ.set i (some (.o d))) (σ.set i (some (.ref a))) E) := fun b o q n => ⟨q, fun y => n (y.elim (fun y => .inl (.inl y)) fun y => (osub b y).elim (fun e => .inl (.inr e)) .inr)⟩
  refine ⟨⟨by rw [List.length_set, List.length_set]; exact r.len, fun j e q => ?_, fun j e q => ?_, fun j l e f x q1 q2 h1 h2 => ?_, fun b h => r.eal b (.inl h), r.al, fun j hj => ?_⟩, osub⟩
  · rcases get_set q with ⟨e1, e2, e3⟩ | ⟨e1, e2⟩
    · cases e2
    · obtain ⟨v, h1, h2⟩ := r.val j e e2
      exact ⟨v, by rw [sg e1]; exact h1, h2.mono k⟩
  · rcases get_set q with ⟨e1, e2, e3⟩ | ⟨e1, e2⟩
    · subst e1
      cases e2
      exact ⟨a, List.getElem?_set_self (by rw [← r.len]; exact e3), v.mono k (fun _ h => h), nE, .inl n0⟩
    · obtain ⟨x, h3, h4, h5, h6⟩ := r.own j e e2
      exact ⟨x, by rw [sg e1]; exact h3, h4.mono k (fun _ h => h), fun h => h5 (.inl h), h6⟩
  · rcases own' j e x q1 h1 with ⟨j1, _, jx⟩ | ⟨j1, j2, j3⟩
    · rcases own' l f x q2 h2 with ⟨l1, _, _⟩ | ⟨l1, l2, l3⟩
      · rw [j1, l1]
      · exact absurd (show Add E a x from .inr jx) (r.own_not ⟨l, f, l2, l3⟩)
    · rcases own' l f x q2 h2 with ⟨l1, _, lx⟩ | ⟨l1, l2, l3⟩
      · exact absurd (show Add E a x from .inr lx) (r.own_not ⟨j, e, j2, j3⟩)
      · exact r.inj j l e f x j2 l2 j3 l3
  · rw [sg (fun e => np (e ▸ hj))]
    exact r.prt j hj
/-- an own slot's list is changed -/
theorem R.chg {d' : D} (r : R c E ρ σ H) (h : ρ[i]? = some (some (.o d))) (ha : σ[i]? = some (some (.ref a))) (keep : ∀ b o, b ≠ a → H b = some o → H' b = some o) (o : OwnAt c.K H' (OE ρ σ E) d' a) :
    R c E (ρ.set i (some (.o d'))) σ H' ∧ Stp ρ σ H (ρ.set i (some (.o d'))) σ H' := by
  have hi : i < ρ.length := (List.getElem?_eq_some_iff.mp h).1
  have own' : ∀ (j : Nat) (e : D), (ρ.set i (some (.o d')))[j]? = some (some (.o e)) → ∃ e', ρ[j]? = some (some (.o e')) := fun j e q => by
    rcases get_set q with ⟨e1, _, _⟩ | ⟨_, e2⟩
    · rw [e1]; exact ⟨_, h⟩
    · exact ⟨_, e2⟩
  have oS : OwnS (ρ.set i (some (.o d'))) σ = OwnS ρ σ := by
    funext b
    apply propext
    constructor
    · rintro ⟨j, e, q1, q2⟩
      obtain ⟨e', q3⟩ := own' j e q1
      exact ⟨j, e', q3, q2⟩
    · rintro ⟨j, e, q1, q2⟩
      by_cases hj : j = i
      · subst hj
        exact ⟨j, d', List.getElem?_set_self hi, q2⟩
      · exact ⟨j, e, by rw [List.getElem?_set_ne (Ne.symm hj)]; exact q1, q2⟩
  have oE : OE (ρ.set i (some (.o d'))) σ E = OE ρ σ E := by unfold OE; rw [oS]
  have na : OwnS ρ σ a := ⟨i, d, h, ha⟩
  have kk : ∀ b o, H b = some o → ¬ OwnS ρ σ b → H' b = some o := fun b o q n => keep b o (fun e => n (e ▸ na)) q
  have k : Keeps H (OE ρ σ E) H' (OE ρ σ E) := fun b o q n => ⟨kk b o q (fun y => n (.inr y)), n⟩
  have all : ∀ b o, H b = some o → ∃ o', H' b = some o' := fun b u q => by
    by_cases hb : b = a
    · rw [hb]; exact o.there
    · exact ⟨u, keep b u hb q⟩
  refine ⟨⟨by rw [List.length_set]; exact r.len, fun j e q => ?_, fun j e q => ?_, fun j l e f x q1 q2 h1 h2 => ?_, fun b q => let ⟨u, h1⟩ := r.eal b q; all b u h1, fun b u q => let ⟨u', h1⟩ := r.al b u q; all b u' h1, r.prt⟩, kk, all, fun b _ _ q => by rw [← oS]; exact q⟩
  · rcases get_set q with ⟨_, e2, _⟩ | ⟨e1, e2⟩
    · cases e2
    · obtain ⟨v, h1, h2⟩ := r.val j e e2
      exact ⟨v, h1, by rw [oE]; exact h2.mono k⟩
  · rcases get_set q with ⟨e1, e2, _⟩ | ⟨e1, e2⟩
    · subst e1
      cases e2
      obtain ⟨x, h3, h4, h5, h6⟩ := r.own j d h
      rw [ha] at h3
      cases h3
      exact ⟨a, ha, by rw [oE]; exact o, h5, h6⟩
    · obtain ⟨x, h3, h4, h5, h6⟩ := r.own j e e2
      have hx : x ≠ a := fun e' => e1 (r.inj j i e d a e2 h (e' ▸ h3) ha)
      exact ⟨x, h3, by rw [oE]; exact h4.mono k (fun o q => keep x o hx q), h5, h6⟩
  · obtain ⟨e', q3⟩ := own' j e q1
    obtain ⟨f', q4⟩ := own' l f q2
    exact r.inj j l e' f' x q3 q4 h1 h2
end

/-! ## statements -/
inductive Out where
  | nx | bk | ct
  | rt (r : RV)
abbrev SS := Rho → Option (Out × Rho)
def PostN (c : Cn) (E : AS) (ρ : Rho) (σ : L2.St) (H : Hp) (ρ' : Rho) (σ' : L2.St) (H' : Hp) : Prop := Stp ρ σ H ρ' σ' H' ∧ R c E ρ' σ' H'
def PostR (c : Cn) (E : AS) (ρ : Rho) (σ : L2.St) (H : Hp) (ρ' : Rho) (σ' : L2.St) (H' : Hp) (rv : RV) (z : V) : Prop :=
  match rv with
  | .v d => PostN c E ρ σ H ρ' σ' H' ∧ Rep c.K H' (OE ρ' σ' E) d z
  | .o d => ∃ a, z = .ref a ∧ Stp ρ σ H ρ' σ' H' ∧ c.H0 a = none ∧ R c (Add E a) ρ' σ' H' ∧ OwnAt c.K H' (OE ρ' σ' (Add E a)) d a
/-- where a statement ends -/
def EndS (c : Cn) (E : AS) (ρ : Rho) (σ : L2.St) (H : Hp) (ρ' : Rho) (out : Out) (Dd : Ends) : Prop :=
  match out with
  | .nx => ∀ σ' H', PostN c E ρ σ H ρ' σ' H' → Dd.nx σ' H'
  | .bk => ∀ σ' H', PostN c E ρ σ H ρ' σ' H' → Dd.bk σ' H'
  | .ct => ∀ σ' H', PostN c E ρ σ H ρ' σ' H' → Dd.ct σ' H'
  | .rt rv => ∀ z σ' H', PostR c E ρ σ H ρ' σ' H' rv z → Dd.rt z H'
def tS (X : Cx) (pr : List Nat) (s : SS) : TS := fun Dd σ H => ∃ c E ρ out ρ', c.K = X.K ∧ c.pr = pr ∧ R c E ρ σ H ∧ s ρ = some (out, ρ') ∧ EndS c E ρ σ H ρ' out Dd
theorem PostN.trans {c : Cn} {E : AS} {ρ ρ1 ρ2 : Rho} {σ σ1 σ2 : L2.St} {H H1 H2 : Hp} (p : PostN c E ρ σ H ρ1 σ1 H1) (q : PostN c E ρ1 σ1 H1 ρ2 σ2 H2) : PostN c E ρ σ H ρ2 σ2 H2 := ⟨p.1.trans q.1, q.2⟩
theorem PostR.from {c : Cn} {E : AS} {ρ ρ1 ρ2 : Rho} {σ σ1 σ2 : L2.St} {H H1 H2 : Hp} {rv : RV} {z : V} (p : PostN c E ρ σ H ρ1 σ1 H1) (q : PostR c E ρ1 σ1 H1 ρ2 σ2 H2 rv z) : PostR c E ρ σ H ρ2 σ2 H2 rv z := by
  cases rv with
  | v d => exact ⟨p.trans q.1, q.2⟩
  | o d => obtain ⟨a, rfl, s, n, r⟩ := q; exact ⟨a, rfl, p.1.trans s, n, r⟩
theorem EndS.from {c : Cn} {E : AS} {ρ ρ1 ρ2 : Rho} {σ σ1 : L2.St} {H H1 : Hp} {out : Out} {Dd : Ends} (p : PostN c E ρ σ H ρ1 σ1 H1) (h : EndS c E ρ σ H ρ2 out Dd) : EndS c E ρ1 σ1 H1 ρ2 out Dd := by
  cases out with
  | nx => exact fun σ' H' q => h σ' H' (p.trans q)
  | bk => exact fun σ' H' q => h σ' H' (p.trans q)
  | ct => exact fun σ' H' q => h σ' H' (p.trans q)
  | rt rv => exact fun z σ' H' q => h z σ' H' (PostR.from p q)

def sNil : SS := fun ρ => some (.nx, ρ)
def sSeq (s t : SS) : SS := fun ρ => (s ρ).bind fun r => match r.1 with
  | .nx => t r.2
  | o => some (o, r.2)
def sDrop (f : ME) : SS := fun ρ => (f ρ).bind fun r => some (.nx, r.2)
def sSet (pr : List Nat) (i : Nat) (f : ME) : SS := fun ρ => if pr.contains i then none else (f ρ).bind fun r => some (.nx, r.2.set i (some r.1))
def sRet (f : ME) : SS := fun ρ => (f ρ).bind fun r => some (.rt r.1, r.2)
def ownAt (ρ : Rho) (i : Nat) : Bool := match ρ[i]? with
  | some (some (.o _)) => true
  | _ => false
theorem ownAt_ok {ρ : Rho} {i : Nat} (h : ownAt ρ i = true) : ∃ d, ρ[i]? = some (some (.o d)) := by
  unfold ownAt at h
  split at h
  · rename_i d q; exact ⟨d, q⟩
  · cases h
/-- return x -/
def sRetV (pr : List Nat) (i : Nat) : SS := fun ρ => match ρ[i]? with
  | some (some (.v d)) => some (.rt (.v d), ρ)
  | some (some (.o d)) => if pr.contains i || !pr.all (ownAt ρ) then none else some (.rt (.o d), ρ.set i none)
  | _ => none
def sRetN : SS := fun ρ => some (.rt (.v .none), ρ)
def sIf (t : MB) (a b : SS) : SS := fun ρ => (t ρ).bind fun r => if r.1 then a r.2 else b r.2
def sBad : SS := fun _ => none
def whileN (t : MB) (b : SS) : Nat → SS
  | 0 => fun _ => none
  | n + 1 => fun ρ => (t ρ).bind fun r => if r.1 then (b r.2).bind fun s => match s.1 with
      | .nx => whileN t b n s.2
      | .ct => whileN t b n s.2
      | .bk => some (.nx, s.2)
      | .rt v => some (.rt v, s.2)
    else some (.nx, r.2)

section
variable {X : Cx} {pr : List Nat} {e : Expr} {f : ME} {bt : MB} {s t : SS} {st : Stmt} {sts : List Stmt} {pos : Pos}
theorem zs_nil : PSs X [] (tS X pr sNil) := by
  refine ⟨fun pins s σ H Dd I hq => pss_nil.run pins s σ H Dd I ?_⟩
  obtain ⟨c, E, ρ, out, ρ', hK, hp, hR, hf, q⟩ := hq
  cases hf
  exact q σ H ⟨Stp.rfl, hR⟩
theorem zs_cons (h1 : PS X st (tS X pr s)) (h2 : PSs X sts (tS X pr t)) : PSs X (st :: sts) (tS X pr (sSeq s t)) := by
  refine ⟨fun pins s σ H Dd I hq => (pss_cons h1 h2).run pins s σ H Dd I ?_⟩
  obtain ⟨c, E, ρ, out, ρ', hK, hp, hR, hf, q⟩ := hq
  obtain ⟨⟨o1, ρ1⟩, h1, hf⟩ := bindS hf
  refine ⟨c, E, ρ, o1, ρ1, hK, hp, hR, h1, ?_⟩
  cases o1 with
  | nx => exact fun σ' H' p => ⟨c, E, ρ1, out, ρ', hK, hp, p.2, hf, q.from p⟩
  | bk => cases hf; exact q
  | ct => cases hf; exact q
  | rt rv => cases hf; exact q
theorem zs_pass : PS X (.Pass pos) (tS X pr sNil) := by
  refine ⟨fun pins s σ H Dd I hq => ps_pass.run pins s σ H Dd I ?_⟩
  obtain ⟨c, E, ρ, out, ρ', hK, hp, hR, hf, q⟩ := hq
  cases hf
  exact q σ H ⟨Stp.rfl, hR⟩
theorem zs_bad : PS X st (tS X pr sBad) := by
  refine ⟨fun pins s σ H Dd I hq => ?_⟩
  obtain ⟨c, E, ρ, out, ρ', hK, hp, hR, hf, q⟩ := hq
  cases hf
theorem zs_drop (h : PE X e (tE X f)) (hs : swapsWith e none pos.line X.env = pure false) : PS X (.Expr e pos) (tS X pr (sDrop f)) := by
  refine ⟨fun pins s σ H Dd I hq => (ps_expr h hs).run pins s σ H Dd I ?_⟩
  obtain ⟨c, E, ρ, out, ρ', hK, hp, hR, hf, q⟩ := hq
  obtain ⟨⟨rv, ρ1⟩, h1, hf⟩ := bindS hf
  cases hf
  exact ⟨c, E, ρ, rv, ρ1, hK, hR, h1, fun z H1 P1 => let p := P1.pv hR; q σ H1 ⟨p.1, p.2.1⟩⟩
theorem PostE.nE {c : Cn} {E : AS} {ρ ρ1 : Rho} {σ : L2.St} {H H1 : Hp} {a : Addr} (hR : R c E ρ σ H) (n : H a = none) : ¬ E a ∧ c.H0 a = none := by
  constructor
  · intro h
    obtain ⟨u, hu⟩ := hR.eal a h
    rw [n] at hu; cases hu
  · cases q : c.H0 a with
    | none => rfl
    | some u =>
      obtain ⟨w, hw⟩ := hR.al a u q
      rw [n] at hw; cases hw
/-- behind a value: the slot i has it -/
theorem post_set {c : Cn} {E : AS} {ρ ρ1 : Rho} {σ : L2.St} {H H1 : Hp} {rv : RV} {z : V} {i : Nat} (hR : R c E ρ σ H) (P : PostE c E ρ σ H ρ1 H1 rv z) (np : i ∉ c.pr) : PostN c E ρ σ H (ρ1.set i (some rv)) (σ.set i (some z)) H1 := by
  cases rv with
  | v d =>
    obtain ⟨s1, r1, p1⟩ := P
    obtain ⟨r2, s2⟩ := r1.setV p1 np
    exact ⟨s1.trans s2, r2⟩
  | o d =>
    obtain ⟨a, rfl, s1, n, r1, o⟩ := P
    obtain ⟨nE, n0⟩ := PostE.nE (ρ1 := ρ1) (H1 := H1) hR n
    obtain ⟨r2, os⟩ := r1.setO o nE n0 np
    refine ⟨⟨s1.keep, s1.all, fun b o hb q => ?_⟩, r2⟩
    rcases os b q with e | e
    · rw [e, n] at hb; cases hb
    · exact s1.own b o hb e
theorem ncont {l : List Nat} {i : Nat} (h : ¬ l.contains i = true) : i ∉ l := fun q => h (by simpa using q)
theorem zs_set' {i : Nat} {tg : Expr} (h : PS X (.Assign [tg] e pos) (tAsg (tE X f) (gName i))) : PS X (.Assign [tg] e pos) (tS X pr (sSet pr i f)) := by
  refine ⟨fun pins s σ H Dd I hq => h.run pins s σ H Dd I ?_⟩
  obtain ⟨c, E, ρ, out, ρ', hK, hp, hR, hf, q⟩ := hq
  unfold sSet at hf
  split at hf
  · cases hf
  · rename_i np
    obtain ⟨⟨rv, ρ1⟩, h1, hf⟩ := bindS hf
    cases hf
    exact ⟨c, E, ρ, rv, ρ1, hK, hR, h1, fun z H1 P1 => q _ H1 (post_set hR P1 (by rw [hp]; exact ncont np))⟩
theorem zs_ret (h : PE X e (tE X f)) : PS X (.Return (some e) pos) (tS X pr (sRet f)) := by
  refine ⟨fun pins s σ H Dd I hq => (ps_ret h).run pins s σ H Dd I ?_⟩
  obtain ⟨c, E, ρ, out, ρ', hK, hp, hR, hf, q⟩ := hq
  obtain ⟨⟨rv, ρ1⟩, h1, hf⟩ := bindS hf
  cases hf
  refine ⟨c, E, ρ, rv, ρ1, hK, hR, h1, fun z H1 P1 => q z σ H1 ?_⟩
  cases rv with
  | v d => exact ⟨⟨P1.1, P1.2.1⟩, P1.2.2⟩
  | o d =>
    obtain ⟨a, rfl, s1, n, r1, o⟩ := P1
    exact ⟨a, rfl, s1, (PostE.nE (ρ1 := ρ1) (H1 := H1) hR n).2, r1, o⟩
theorem zs_retN : PS X (.Return none pos) (tS X pr sRetN) := by
  refine ⟨fun pins s σ H Dd I hq => ps_retN.run pins s σ H Dd I ?_⟩
  obtain ⟨c, E, ρ, out, ρ', hK, hp, hR, hf, q⟩ := hq
  cases hf
  exact q .non σ H ⟨⟨Stp.rfl, hR⟩, .non⟩
theorem R.lose {c : Cn} {E : AS} {ρ : Rho} {σ : L2.St} {H : Hp} {i : Nat} {d : D} (r : R c E ρ σ H) (h : ρ[i]? = some (some (.o d))) (np : i ∉ c.pr) (ap : ∀ j ∈ c.pr, ownAt ρ j = true) :
    ∃ a, σ[i]? = some (some (.ref a)) ∧ c.H0 a = none ∧ R c (Add E a) (ρ.set i none) σ H ∧ OwnAt c.K H (OE (ρ.set i none) σ (Add E a)) d a ∧ Stp ρ σ H (ρ.set i none) σ H := by
  obtain ⟨a, h1, h2, h3, h4⟩ := r.own i d h
  have sub : ∀ (j : Nat) (e : RV), (ρ.set i none)[j]? = some (some e) → j ≠ i ∧ ρ[j]? = some (some e) := fun j e q => by
    rcases get_set q with ⟨_, q, _⟩ | q
    · cases q
    · exact q
  have osub : ∀ b, OwnS (ρ.set i none) σ b → OwnS ρ σ b := fun b ⟨j, e, q1, q2⟩ => ⟨j, e, (sub j _ q1).2, q2⟩
  have na : OwnS ρ σ a := ⟨i, d, h, h1⟩
  have k : Keeps H (OE ρ σ E) H (OE (ρ.set i none) σ (Add E a)) := fun b o q n => ⟨q, fun y => y.elim (fun y => y.elim (fun y => n (.inl y)) fun e => n (.inr (e ▸ na))) fun y => n (.inr (osub b y))⟩
  have n0 : c.H0 a = none := by
    rcases h4 with h4 | ⟨j, hj, ej⟩
    · exact h4
    · obtain ⟨e, he⟩ := ownAt_ok (ap j hj)
      have q : σ[j]? = some (some (.ref a)) := by rw [r.prt j hj]; exact ej
      exact absurd (r.inj j i e d a he h q h1 ▸ hj) np
  refine ⟨a, h1, n0, ⟨by rw [List.length_set]; exact r.len, fun j e q => ?_, fun j e q => ?_, fun j l e f x q1 q2 => ?_, fun b q => ?_, r.al, r.prt⟩, h2.mono k (fun _ h => h), fun _ _ h _ => h, fun _ _ h => ⟨_, h⟩, fun b _ _ q => osub b q⟩
  · obtain ⟨v, h5, h6⟩ := r.val j e (sub j _ q).2
    exact ⟨v, h5, h6.mono k⟩
  · obtain ⟨q1, q2⟩ := sub j _ q
    obtain ⟨x, h5, h6, h7, h8⟩ := r.own j e q2
    refine ⟨x, h5, h6.mono k (fun _ h => h), fun y => y.elim h7 fun e' => q1 (r.inj j i e d a q2 h (e' ▸ h5) h1), h8⟩
  · exact r.inj j l e f x (sub _ _ q1).2 (sub _ _ q2).2
  · rcases q with q | q
    · exact r.eal b q
    · rw [q]; exact h2.there
theorem zs_retV {i : Nat} (h : PE X e (tVar i)) : PS X (.Return (some e) pos) (tS X pr (sRetV pr i)) := by
  refine ⟨fun pins s σ H Dd I hq => (ps_ret h).run pins s σ H Dd I ?_⟩
  obtain ⟨c, E, ρ, out, ρ', hK, hp, hR, hf, q⟩ := hq
  unfold sRetV at hf
  split at hf
  · rename_i d hr
    cases hf
    obtain ⟨v, h1, h2⟩ := hR.val i d hr
    exact ⟨v, h1, q v σ H ⟨⟨Stp.rfl, hR⟩, h2⟩⟩
  · rename_i d hr
    split at hf
    · cases hf
    · rename_i np
      cases hf
      rw [Bool.or_eq_true, not_or] at np
      obtain ⟨np1, np2⟩ := np
      have ap : ∀ j ∈ pr, ownAt ρ j = true := by simpa using np2
      obtain ⟨a, h1, n, r1, o, s1⟩ := hR.lose hr (by rw [hp]; exact ncont np1) (by rw [hp]; exact ap)
      exact ⟨_, h1, q _ σ H ⟨a, rfl, s1, n, r1, o⟩⟩
  · cases hf
theorem zs_if {t0 : Expr} {as bs : List Stmt} (ht : PT X t0 (tT X bt)) (ha : PSs X as (tS X pr s)) (hb : PSs X bs (tS X pr t)) : PS X (.If t0 as bs pos) (tS X pr (sIf bt s t)) := by
  refine ⟨fun pins s σ H Dd I hq => (ps_if ht ha hb).run pins s σ H Dd I ?_⟩
  obtain ⟨c, E, ρ, out, ρ', hK, hp, hR, hf, q⟩ := hq
  obtain ⟨⟨k, ρ1⟩, h1, hf⟩ := bindS hf
  refine ⟨c, E, ρ, k, ρ1, hK, hR, h1, fun H1 P1 => ?_⟩
  cases k with
  | true => exact iteT ⟨c, E, ρ1, out, ρ', hK, hp, P1.2, hf, q.from P1⟩
  | false => exact iteF ⟨c, E, ρ1, out, ρ', hK, hp, P1.2, hf, q.from P1⟩
theorem zs_while {n : Nat} {t0 : Expr} {bs : List Stmt} (hpo : PassesOwn (model X.prog X.w) X.A X.env X.xe) (ht : PT X t0 (tT X bt)) (hb : PSs X bs (tS X pr s)) : PS X (.While t0 bs [] pos) (tS X pr (whileN bt s n)) := by
  refine ⟨fun pins s0 σ H Dd I hq => (ps_while hpo ht hb).run pins s0 σ H Dd I ?_⟩
  obtain ⟨c, E, ρ, out, ρ', hK, hp, hR, hf, q⟩ := hq
  refine ⟨fun m σ1 H1 => ∃ ρ1, R c E ρ1 σ1 H1 ∧ whileN bt s m ρ1 = some (out, ρ') ∧ EndS c E ρ1 σ1 H1 ρ' out Dd, ⟨n, ρ, hR, hf, q⟩, ?_⟩
  rintro m σ1 H1 ⟨ρ1, R1, f1, q1⟩
  cases m with
  | zero => cases f1
  | succ m =>
    obtain ⟨⟨k, ρ2⟩, h2, f1⟩ := bindS f1
    refine ⟨c, E, ρ1, k, ρ2, hK, R1, h2, fun H2 P2 => ?_⟩
    cases k with
    | false =>
      cases f1
      exact iteF (q1 σ1 H2 P2)
    | true =>
      obtain ⟨⟨o3, ρ3⟩, h3, f1⟩ := bindS f1
      refine iteT ⟨fun σ' H' => ∃ ρ1, R c E ρ1 σ' H' ∧ whileN bt s m ρ1 = some (out, ρ') ∧ EndS c E ρ1 σ' H' ρ' out Dd, fun σ' H' h => ⟨m, Nat.lt_succ_self _, h⟩, c, E, ρ2, o3, ρ3, hK, hp, P2.2, h3, ?_⟩
      have P2' : PostN c E ρ1 σ1 H1 ρ2 σ1 H2 := P2
      cases o3 with
      | nx => exact fun σ' H' p => ⟨ρ3, p.2, f1, EndS.from (P2'.trans p) q1⟩
      | ct => exact fun σ' H' p => ⟨ρ3, p.2, f1, EndS.from (P2'.trans p) q1⟩
      | bk => cases f1; exact fun σ' H' p => q1 σ' H' (P2'.trans p)
      | rt rv => cases f1; exact fun z σ' H' p => q1 z σ' H' (PostR.from P2' p)
end
end Z
namespace Z
open PySem PySem.Spec L2
open PyProof.Rows hiding St

/-! ## targets -/
abbrev SG := D → Rho → Option Rho
abbrev SGs := List D → Rho → Option Rho
def Same' (tv : List Nat) (σ σ' : L2.St) : Prop := σ'.length = σ.length ∧ ∀ j, j ∉ tv → σ'[j]? = σ[j]?
def tG (X : Cx) (pr tv : List Nat) (g : SG) : TG := fun v σ H Q => ∃ c E ρ d ρ', c.K = X.K ∧ c.pr = pr ∧ R c E ρ σ H ∧ Rep c.K H (OE ρ σ E) d v ∧ g d ρ = some ρ' ∧ ∀ σ' H', PostN c E ρ σ H ρ' σ' H' → Same' tv σ σ' → Q σ' H'
def tGs (X : Cx) (pr tv : List Nat) (g : SGs) : TGs := fun vs σ H Q => ∃ c E ρ ds ρ', c.K = X.K ∧ c.pr = pr ∧ R c E ρ σ H ∧ Reps c.K H (OE ρ σ E) ds vs ∧ g ds ρ = some ρ' ∧ ∀ σ' H', PostN c E ρ σ H ρ' σ' H' → Same' tv σ σ' → Q σ' H'
def gN (pr : List Nat) (i : Nat) : SG := fun d ρ => if pr.contains i then none else some (ρ.set i (some (.v d)))
def gNil : SGs := fun ds ρ => match ds with
  | [] => some ρ
  | _ => none
def gCons (g : SG) (h : SGs) : SGs := fun ds ρ => match ds with
  | d :: r => (g d ρ).bind fun ρ1 => h r ρ1
  | [] => none
def gTup (h : SGs) : SG := fun d ρ => match d with
  | .tuple ds => h ds ρ
  | _ => none
def setD (d i x : D) : Option D := match d with
  | .list ds => match i with
    | .int i => (ixN ds.length i).bind fun j => some (.list (ds.set j x))
    | _ => none
  | .dict ds => if isKD i && decide (ds.length < 16777216) then some (.dict (setK ds i x)) else none
  | _ => none
def asV : RV → Option D
  | .v d => some d
  | _ => none
theorem asV_ok {rv : RV} {d : D} (h : asV rv = some d) : rv = .v d := by
  unfold asV at h
  split at h <;> first | (cases h; rfl) | cases h
def rSetD : TSet := fun o i v H Q => rSetL o i v H Q ∨ ∃ a kvs k, o = .ref a ∧ i = kV k ∧ H a = some (.dK kvs) ∧ kvs.length < sizeLine ∧ Q (upd H a (.dK (putK kvs k v)))
theorem set_any {X : Cx} (hu : X.A.units + 66 < cLine) : PSet X rSetD := by
  intro pins s σ H o i v ov iv u Q I ro ri rv h
  rcases h with h | ⟨a, kvs, k, rfl, rfl, e, hl, q⟩
  · exact set_list pins s σ H o i v ov iv u Q I ro ri rv h
  · cases ro
    exact d_setItem (by omega) I (.k e hl) ri rv fun s' I' => ⟨_, I', q⟩
def gIx (o : Nat) (fi : ME) : SG := fun d ρ => (slot ρ o).bind fun _ => (fi ρ).bind fun r => (asV r.1).bind fun i => match r.2[o]? with
  | some (some (.o l)) => (setD l i d).bind fun l' => some (r.2.set o (some (.o l')))
  | _ => none
def sAsg (f : ME) (g : SG) : SS := fun ρ => (f ρ).bind fun r => (g r.1.d r.2).bind fun ρ2 => some (.nx, ρ2)

section
variable {X : Cx} {pr tv tv2 : List Nat} {e tg : Expr} {es : List Expr} {f fi : ME} {g : SG} {h : SGs} {pos : Pos}
theorem Same'.rfl {σ : L2.St} : Same' tv σ σ := ⟨Eq.refl _, fun _ _ => Eq.refl _⟩
theorem Same'.trans {σ σ1 σ2 : L2.St} (a : Same' tv σ σ1) (b : Same' tv2 σ1 σ2) : Same' (tv ++ tv2) σ σ2 :=
  ⟨b.1.trans a.1, fun j hj => by
    rw [List.mem_append, not_or] at hj
    exact (b.2 j hj.2).trans (a.2 j hj.1)⟩
theorem zg_name {i : Nat} (hg : PG X e (gName i)) : PG X e (tG X pr [i] (gN pr i)) := by
  refine ⟨fun pins s σ H v u Q I r hq => hg.run pins s σ H v u Q I r ?_⟩
  obtain ⟨c, E, ρ, d, ρ', hK, hp, hR, hv, hf, q⟩ := hq
  unfold gN at hf
  split at hf
  · cases hf
  · rename_i np
    cases hf
    obtain ⟨r2, s2⟩ := hR.setV (i := i) hv (by rw [hp]; exact ncont np)
    exact q _ H ⟨s2, r2⟩ ⟨List.length_set, fun j hj => List.getElem?_set_ne (fun e => hj (by rw [e]; exact List.mem_singleton.mpr rfl))⟩
theorem zgs_nil : PGs X [] (tGs X pr [] gNil) := by
  refine ⟨fun pins s σ H vs us Q I r hq => pgs_nil.run pins s σ H vs us Q I r ?_⟩
  obtain ⟨c, E, ρ, ds, ρ', hK, hp, hR, hv, hf, q⟩ := hq
  unfold gNil at hf
  split at hf
  · cases hf
    cases hv
    exact ⟨rfl, q σ H ⟨Stp.rfl, hR⟩ Same'.rfl⟩
  · cases hf
theorem zgs_cons {g : SG} {h : SGs} (h1 : PG X e (tG X pr tv g)) (h2 : PGs X es (tGs X pr tv2 h)) (hs : (assignEach (e :: es) X.env).map (·.2) = assign e X.env :: (assignEach es X.env).map (·.2)) : PGs X (e :: es) (tGs X pr (tv ++ tv2) (gCons g h)) := by
  refine ⟨fun pins s σ H vs us Q I r hq => (pgs_cons h1 h2 hs).run pins s σ H vs us Q I r ?_⟩
  obtain ⟨c, E, ρ, ds, ρ', hK, hp, hR, hv, hf, q⟩ := hq
  unfold gCons at hf
  split at hf
  · rename_i d r'
    obtain ⟨ρ1, h3, h4⟩ := bindS hf
    cases hv with
    | cons v1 v2 =>
      refine ⟨_, _, rfl, c, E, ρ, d, ρ1, hK, hp, hR, v1, h3, fun σ1 H1 P1 S1 => ⟨c, E, ρ1, r', ρ', hK, hp, P1.2, v2.mono P1.1.keeps, h4, fun σ2 H2 P2 S2 => q σ2 H2 (P1.trans P2) (S1.trans S2)⟩⟩
  · cases hf
def gTn (n : Nat) (h : SGs) : SG := fun d ρ => match d with
  | .tuple ds => if ds.length = n then h ds ρ else none
  | _ => none
theorem zg_tup {k n : Nat} {h : SGs} (hc : X.calm = true) (hh : PGs X es (tGs X pr tv h)) (hn : (assignEach es X.env).length = n) (hst : (assignEach es X.env).findIdx? (·.1) = none) : PG X (.Tuple es k pos) (tG X pr tv (gTn n h)) := by
  refine ⟨fun pins s σ H v u Q I r hq => (pg_tup hc hh hn hst).run pins s σ H v u Q I r ?_⟩
  obtain ⟨c, E, ρ, d, ρ', hK, hp, hR, hv, hf, q⟩ := hq
  unfold gTn at hf
  split at hf
  · rename_i ds
    split at hf
    · rename_i hl
      cases hv with
      | tup ht rs =>
        rw [hK] at ht
        exact ⟨_, _, rfl, ht.sq, by rw [← rs.length]; exact hl, c, E, ρ, ds, ρ', hK, hp, hR, rs, hf, q⟩
    · cases hf
  · cases hf
theorem keeps_upd {c : Cn} {E : AS} {ρ : Rho} {σ : L2.St} {H : Hp} {a : Addr} {o : HO} (na : OwnS ρ σ a) : Keeps H (OE ρ σ E) (upd H a o) (OE ρ σ E) := fun b u q n =>
  by
  have hb : b ≠ a := fun e => n (.inr (by rw [e]; exact na))
  exact ⟨by rw [upd_ne hb]; exact q, n⟩
theorem R.slot_some {c : Cn} {E : AS} {ρ : Rho} {σ : L2.St} {H : Hp} {o : Nat} {d : D} (r : R c E ρ σ H) (h : slot ρ o = some d) : ∃ z, σ[o]? = some (some z) := by
  unfold slot at h
  split at h
  · rename_i rv hr
    cases rv with
    | v d => obtain ⟨v, h3, _⟩ := r.val o d hr; exact ⟨v, h3⟩
    | o d => obtain ⟨v, h3, _⟩ := r.own o d hr; exact ⟨_, h3⟩
  · cases h
theorem zg_ix {o : Nat} {oe ie : Expr} (hu : X.A.units + 66 < cLine) (ho : PE X oe (tVar o)) (hi : PE X ie (tE X fi))
    (ha : ∀ v, assign (.Subscript oe ie pos) X.env v = (do
      let ov ← holding [v] (eval oe X.env)
      let iv ← holding [v, ov] (eval ie X.env)
      standAt pos
      holding [v, ov, iv] (setItem ov iv v)
      release [v, ov, iv] [])) : PG X (.Subscript oe ie pos) (tG X pr [] (gIx o fi)) := by
  refine ⟨fun pins s σ H v u Q I r hq => (pg_sub ho hi (set_any hu) ha).run pins s σ H v u Q I r ?_⟩
  obtain ⟨c, E, ρ, d, ρ', hK, hp, hR, hv, hf, q⟩ := hq
  obtain ⟨_, h0, hf⟩ := bindS hf
  obtain ⟨z, hz⟩ := hR.slot_some h0
  obtain ⟨⟨ri, ρ1⟩, h1, hf⟩ := bindS hf
  obtain ⟨i, h2, hf⟩ := bindS hf
  have e := asV_ok h2
  subst e
  split at hf
  · rename_i l hl
    obtain ⟨l', h3, h4⟩ := bindS hf
    cases h4
    unfold setD at h3
    split at h3
    · rename_i ds
      split at h3
      · rename_i i
        obtain ⟨j, h5, h6⟩ := bindS h3
        cases h6
        refine ⟨z, hz, c, E, ρ, _, ρ1, hK, hR, h1, fun y H1 P1 => ?_⟩
        obtain ⟨s1, r1, p1⟩ := P1.v
        cases p1
        obtain ⟨a, a1, ⟨vs, a2, a3⟩, _⟩ := r1.own o _ hl
        rw [hz] at a1
        cases a1
        refine .inl ⟨a, vs, _, j, rfl, rfl, a2, by rw [← a3.length]; exact h5, ?_⟩
        obtain ⟨r2, s2⟩ := r1.chg (d' := .list (ds.set j d)) (H' := upd H1 a (.lst (vs.set j v))) hl hz (fun b o hb q => by rw [upd_ne hb]; exact q)
          ⟨_, upd_same, Reps.set j ((hv.mono s1.keeps).mono (keeps_upd (c := c) ⟨o, _, hl, hz⟩)) (a3.mono (keeps_upd (c := c) ⟨o, _, hl, hz⟩))⟩
        exact q σ _ ⟨s1.trans s2, r2⟩ Same'.rfl
      · cases h3
    · rename_i ds
      split at h3
      · rename_i hc
        rw [Bool.and_eq_true, decide_eq_true_eq] at hc
        obtain ⟨k, rfl⟩ := isKD_ok hc.1
        cases h3
        refine ⟨z, hz, c, E, ρ, _, ρ1, hK, hR, h1, fun y H1 P1 => ?_⟩
        obtain ⟨s1, r1, p1⟩ := P1.v
        have ey : y = kV k := by
          cases k with
          | inl i => cases p1; rfl
          | inr i => cases p1; rfl
        subst ey
        obtain ⟨a, a1, ⟨kvs, a2, a3⟩, _⟩ := r1.own o _ hl
        rw [hz] at a1
        cases a1
        refine .inr ⟨a, kvs, k, rfl, rfl, a2, by rw [sizeLine_eq, ← a3.length]; exact hc.2, ?_⟩
        obtain ⟨r2, s2⟩ := r1.chg (d' := .dict (setK ds (kD k) d)) (H' := upd H1 a (.dK (putK kvs k v))) hl hz (fun b o hb q => by rw [upd_ne hb]; exact q)
          ⟨_, upd_same, setK_ok ((hv.mono s1.keeps).mono (keeps_upd (c := c) ⟨o, _, hl, hz⟩)) (a3.mono (keeps_upd (c := c) ⟨o, _, hl, hz⟩))⟩
        exact q σ _ ⟨s1.trans s2, r2⟩ Same'.rfl
      · cases h3
    · cases h3
  · cases hf
theorem zs_asg (he : PE X e (tE X f)) (hg : PG X tg (tG X pr tv g)) (hs : swapsWithSole [tg] e pos.line X.env = pure false) (hw : swappedStores [tg] e X.env = pure none)
    (h1 : (assignEach [tg] X.env).map (·.2) = [assign tg X.env]) : PS X (.Assign [tg] e pos) (tS X pr (sAsg f g)) := by
  refine ⟨fun pins s σ H Dd I hq => (ps_asg he hg hs hw h1).run pins s σ H Dd I ?_⟩
  obtain ⟨c, E, ρ, out, ρ', hK, hp, hR, hf, q⟩ := hq
  obtain ⟨⟨rv, ρ1⟩, h1, hf⟩ := bindS hf
  obtain ⟨ρ2, h2, hf⟩ := bindS hf
  cases hf
  refine ⟨c, E, ρ, rv, ρ1, hK, hR, h1, fun z H1 P1 => ?_⟩
  obtain ⟨s1, r1, p1⟩ := P1.pv hR
  exact ⟨c, E, ρ1, rv.d, ρ', hK, hp, r1, p1, h2, fun σ' H' P2 _ => q σ' H' ⟨s1.trans P2.1, P2.2⟩⟩
end

/-! ## calls of the text's own defs -/
structure FnS where
  mask : List Bool
  run : List D → Option (RV × List D)
inductive AR where
  | tv (d : D)
  | sl (i : Nat)
  | ow (d : D)
abbrev MAs := Rho → Option (List AR × Rho)
def AddL (E : AS) (as : List Addr) : AS := fun b => E b ∨ b ∈ as
theorem AddL_nil {E : AS} : AddL E [] = E := by
  funext b; apply propext; constructor
  · rintro (h | h)
    · exact h
    · cases h
  · exact .inl
theorem AddL_cons {E : AS} {a : Addr} {as : List Addr} : AddL (Add E a) as = AddL E (a :: as) := by
  funext b; apply propext; constructor
  · rintro ((h | h) | h)
    · exact .inl h
    · exact .inr (by rw [h]; exact List.mem_cons_self)
    · exact .inr (List.mem_cons_of_mem _ h)
  · rintro (h | h)
    · exact .inl (.inl h)
    · rcases List.mem_cons.mp h with h | h
      · exact .inl (.inr h)
      · exact .inr h
def ArAt (c : Cn) (E : AS) (ρ : Rho) (σ : L2.St) (H : Hp) : List AR → List V → List Addr → Prop
  | [], [], [] => True
  | .tv d :: ps, z :: zs, as => Rep c.K H (OE ρ σ E) d z ∧ ArAt c E ρ σ H ps zs as
  | .sl i :: ps, z :: zs, as => σ[i]? = some (some z) ∧ ArAt c E ρ σ H ps zs as
  | .ow d :: ps, z :: zs, a :: as => z = .ref a ∧ OwnAt c.K H (OE ρ σ E) d a ∧ ArAt c E ρ σ H ps zs as
  | _, _, _ => False
def tAs (X : Cx) (f : MAs) : TA := fun σ H Q => ∃ c E ρ ps ρ', c.K = X.K ∧ R c E ρ σ H ∧ f ρ = some (ps, ρ') ∧
  ∀ zs as H', Stp ρ σ H ρ' σ H' ∧ R c (AddL E as) ρ' σ H' ∧ ArAt c (AddL E as) ρ' σ H' ps zs as ∧ (∀ a ∈ as, H a = none) ∧ as.Nodup → Q zs H'
def aNil : MAs := fun ρ => some ([], ρ)
/-- an argument whose value is kept -/
def aTv (f : ME) (g : MAs) : MAs := fun ρ => (f ρ).bind fun r => (g r.2).bind fun s => some (.tv r.1.d :: s.1, s.2)
/-- a list that the def may change: a name's, a new one -/
def aSl (i : Nat) (g : MAs) : MAs := fun ρ => (slot ρ i).bind fun _ => (g ρ).bind fun s => some (.sl i :: s.1, s.2)
def aOw (f : ME) (g : MAs) : MAs := fun ρ => (f ρ).bind fun r => match r.1 with
  | .o d => (g r.2).bind fun s => some (.ow d :: s.1, s.2)
  | _ => none

section
variable {X : Cx} {e : Expr} {es : List Expr} {f : ME} {g : MAs} {pos : Pos}
theorem ArAt.mono {c : Cn} {E E' : AS} {ρ ρ' : Rho} {σ : L2.St} {H H' : Hp} (k : Keeps H (OE ρ σ E) H' (OE ρ' σ E')) (ko : ∀ b o, E b → H b = some o → H' b = some o) :
    ∀ {ps : List AR} {zs : List V} {as : List Addr}, (∀ a ∈ as, E a) → ArAt c E ρ σ H ps zs as → ArAt c E' ρ' σ H' ps zs as
  | [], [], [], _, _ => True.intro
  | .tv _ :: _, _ :: _, _, ha, h => ⟨h.1.mono k, ArAt.mono k ko ha h.2⟩
  | .sl _ :: _, _ :: _, _, ha, h => ⟨h.1, ArAt.mono k ko ha h.2⟩
  | .ow _ :: _, _ :: _, a :: as, ha, h => ⟨h.1, h.2.1.mono k (fun o q => ko a o (ha a List.mem_cons_self) q), ArAt.mono k ko (fun b hb => ha b (List.mem_cons_of_mem _ hb)) h.2.2⟩
  | [], _ :: _, _, _, h => by cases h
  | [], [], _ :: _, _, h => by cases h
  | .tv _ :: _, [], _, _, h => by cases h
  | .sl _ :: _, [], _, _, h => by cases h
  | .ow _ :: _, [], _, _, h => by cases h
  | .ow _ :: _, _ :: _, [], _, h => by cases h
theorem za_nil : PA X [] (tAs X aNil) := by
  refine ⟨fun pos pins s σ H Q I hq => pa_nil.run pos pins s σ H Q I ?_⟩
  obtain ⟨c, E, ρ, p, ρ', hK, hR, hf, q⟩ := hq
  cases hf
  have h1 : R c (AddL E []) ρ σ H := by rw [AddL_nil]; exact hR
  have h2 : ∀ a ∈ ([] : List Addr), H a = none := fun a h => by cases h
  have h3 : ArAt c (AddL E []) ρ σ H [] [] [] := by unfold ArAt; exact True.intro
  exact q [] [] H ⟨Stp.rfl, h1, h3, h2, List.nodup_nil⟩
theorem za_tv (ha : PE X e (tE X f)) (hr : PA X es (tAs X g)) (hs : starEach (e :: es) X.env = (false, eval e X.env) :: starEach es X.env) : PA X (e :: es) (tAs X (aTv f g)) := by
  refine ⟨fun pos pins s σ H Q I hq => (pa_cons ha hr hs).run pos pins s σ H Q I ?_⟩
  obtain ⟨c, E, ρ, p, ρ', hK, hR, hf, q⟩ := hq
  obtain ⟨⟨rv, ρ1⟩, h1, hf⟩ := bindS hf
  obtain ⟨⟨p2, ρ2⟩, h2, hf⟩ := bindS hf
  cases hf
  refine ⟨c, E, ρ, rv, ρ1, hK, hR, h1, fun x H1 P1 => ?_⟩
  obtain ⟨s1, r1, v1⟩ := P1.pv hR
  refine ⟨c, E, ρ1, p2, ρ2, hK, r1, h2, fun zs as H2 ⟨s2, r2, a2, n2, nd⟩ => q _ as H2 ⟨s1.trans s2, r2, ⟨?_, a2⟩, fun a ha => ?_, nd⟩⟩
  · refine v1.mono fun b o hb n => ⟨s2.keep b o hb fun y => n (.inr y), fun y => ?_⟩
    rcases y with (y | y) | y
    · exact n (.inl y)
    · rw [n2 b y] at hb; cases hb
    · exact n (.inr (s2.own b o hb y))
  · cases q : H a with
    | none => rfl
    | some u => obtain ⟨w, hw⟩ := s1.all a u q; rw [n2 a ha] at hw; cases hw
theorem za_sl {i : Nat} (ha : PE X e (tVar i)) (hr : PA X es (tAs X g)) (hs : starEach (e :: es) X.env = (false, eval e X.env) :: starEach es X.env) : PA X (e :: es) (tAs X (aSl i g)) := by
  refine ⟨fun pos pins s σ H Q I hq => (pa_cons ha hr hs).run pos pins s σ H Q I ?_⟩
  obtain ⟨c, E, ρ, p, ρ', hK, hR, hf, q⟩ := hq
  obtain ⟨d, h0, hf⟩ := bindS hf
  obtain ⟨z, hz⟩ := hR.slot_some h0
  obtain ⟨⟨p2, ρ2⟩, h2, hf⟩ := bindS hf
  cases hf
  exact ⟨z, hz, c, E, ρ, p2, ρ2, hK, hR, h2, fun zs as H2 ⟨s2, r2, a2, n2⟩ => q _ as H2 ⟨s2, r2, ⟨hz, a2⟩, n2⟩⟩
theorem za_ow (ha : PE X e (tE X f)) (hr : PA X es (tAs X g)) (hs : starEach (e :: es) X.env = (false, eval e X.env) :: starEach es X.env) : PA X (e :: es) (tAs X (aOw f g)) := by
  refine ⟨fun pos pins s σ H Q I hq => (pa_cons ha hr hs).run pos pins s σ H Q I ?_⟩
  obtain ⟨c, E, ρ, p, ρ', hK, hR, hf, q⟩ := hq
  obtain ⟨⟨rv, ρ1⟩, h1, hf⟩ := bindS hf
  cases rv with
  | v d => cases hf
  | o d =>
    obtain ⟨⟨p2, ρ2⟩, h2, hf⟩ := bindS hf
    cases hf
    refine ⟨c, E, ρ, _, ρ1, hK, hR, h1, fun x H1 P1 => ?_⟩
    obtain ⟨a, rfl, s1, n1, r1, o1⟩ := P1
    refine ⟨c, Add E a, ρ1, p2, ρ2, hK, r1, h2, fun zs as H2 ⟨s2, r2, a2, n2, nd⟩ => q _ (a :: as) H2 ?_⟩
    rw [AddL_cons] at r2 a2
    obtain ⟨u, hu⟩ := o1.there
    have nS : ¬ OwnS ρ1 σ a := fun y => r1.own_not y (.inr rfl)
    refine ⟨s1.trans s2, r2, ⟨rfl, ?_, a2⟩, fun b hb => ?_, List.nodup_cons.mpr ⟨fun m => ?_, nd⟩⟩
    · refine o1.mono (fun b o hb n => ⟨s2.keep b o hb fun y => n (.inr y), fun y => ?_⟩) fun o q => s2.keep a o q nS
      rcases y with (y | y) | y
      · exact n (.inl (.inl y))
      · rcases List.mem_cons.mp y with y | y
        · exact n (.inl (.inr y))
        · rw [n2 b y] at hb; cases hb
      · exact n (.inr (s2.own b o hb y))
    · rcases List.mem_cons.mp hb with hb | hb
      · rw [hb]; exact n1
      · cases q : H b with
        | none => rfl
        | some u => obtain ⟨w, hw⟩ := s1.all b u q; rw [n2 b hb] at hw; cases hw
    · rw [n2 a m] at hu; cases hu
end

/-- the masked arguments stand at ms -/
def ArgRel (K : PySem.W.Frag) (H : Hp) (O : AS) : List Bool → List D → List V → List Addr → Prop
  | [], [], [], [] => True
  | false :: ms, d :: ds, v :: vs, as => Rep K H O d v ∧ ArgRel K H O ms ds vs as
  | true :: ms, d :: ds, v :: vs, a :: as => v = .ref a ∧ OwnAt K H O d a ∧ ArgRel K H O ms ds vs as
  | _, _, _, _ => False
def Outs (K : PySem.W.Frag) (H : Hp) (O : AS) : List D → List Addr → Prop
  | [], [] => True
  | d :: ds, a :: as => OwnAt K H O d a ∧ Outs K H O ds as
  | _, _ => False
def CallPost (K : PySem.W.Frag) (H : Hp) (O : AS) (ms : List Addr) (outs : List D) (rv : RV) (z : V) (H' : Hp) : Prop :=
  (∀ b o, H b = some o → b ∉ ms → H' b = some o) ∧ (∀ b o, H b = some o → ∃ o', H' b = some o') ∧
  match rv with
  | .v d => Rep K H' O d z ∧ Outs K H' O outs ms
  | .o d => ∃ a, z = .ref a ∧ H a = none ∧ OwnAt K H' (Add O a) d a ∧ Outs K H' (Add O a) outs ms
def spF (K : PySem.W.Frag) (F : FnS) : Sp := fun vs H Q _ => ∃ (O : AS) (ds : List D) (ms : List Addr) (rv : RV) (outs : List D), vs.length = F.mask.length ∧ F.run ds = some (rv, outs) ∧ (∀ b, O b → ∃ o, H b = some o) ∧
  ArgRel K H O F.mask ds vs ms ∧ ms.Nodup ∧ (∀ a ∈ ms, O a) ∧ ∀ z H', CallPost K H O ms outs rv z H' → Q z H'
/-- the data of the arguments -/
def argsD : List Bool → List AR → Rho → Option (List D)
  | [], [], _ => some []
  | false :: ms, .tv d :: ps, ρ => (argsD ms ps ρ).bind fun ds => some (d :: ds)
  | true :: ms, .sl i :: ps, ρ => match ρ[i]? with
    | some (some (.o d)) => (argsD ms ps ρ).bind fun ds => some (d :: ds)
    | _ => none
  | true :: ms, .ow d :: ps, ρ => (argsD ms ps ρ).bind fun ds => some (d :: ds)
  | _, _, _ => none
def ownIx : List Bool → List AR → List Nat
  | true :: ms, .sl i :: ps => i :: ownIx ms ps
  | _ :: ms, _ :: ps => ownIx ms ps
  | _, _ => []
/-- the slots of the masked names have what the def leaves -/
def putO : List Bool → List AR → List D → Rho → Option Rho
  | [], [], [], ρ => some ρ
  | false :: ms, _ :: ps, outs, ρ => putO ms ps outs ρ
  | true :: ms, .sl i :: ps, d :: outs, ρ => putO ms ps outs (ρ.set i (some (.o d)))
  | true :: ms, .ow _ :: ps, _ :: outs, ρ => putO ms ps outs ρ
  | _, _, _, _ => none
def nodupN (l : List Nat) : Bool := decide l.Nodup
def eCall (F : FnS) (fs : MAs) : ME := fun ρ => (fs ρ).bind fun r => (argsD F.mask r.1 r.2).bind fun ds => if nodupN (ownIx F.mask r.1) then (F.run ds).bind fun w => (putO F.mask r.1 w.2 r.2).bind fun ρ2 => some (w.1, ρ2) else none
end Z
namespace Z
open PySem PySem.Spec L2
open PyProof.Rows hiding St

abbrev Tr := Nat × D × Addr
def putT (ts : List Tr) (ρ : Rho) : Rho := ts.foldl (fun ρ t => ρ.set t.1 (some (.o t.2.1))) ρ
theorem putT_len : ∀ (ts : List Tr) (ρ : Rho), (putT ts ρ).length = ρ.length
  | [], _ => rfl
  | t :: ts, ρ => by
    show (putT ts (ρ.set t.1 (some (.o t.2.1)))).length = ρ.length
    rw [putT_len ts, List.length_set]
theorem putT_ne : ∀ (ts : List Tr) (ρ : Rho) (j : Nat), (∀ t ∈ ts, t.1 ≠ j) → (putT ts ρ)[j]? = ρ[j]?
  | [], _, _, _ => rfl
  | t :: ts, ρ, j, h => by
    show (putT ts (ρ.set t.1 (some (.o t.2.1))))[j]? = ρ[j]?
    rw [putT_ne ts _ j fun u hu => h u (List.mem_cons_of_mem _ hu), List.getElem?_set_ne (h t List.mem_cons_self)]
theorem putT_at : ∀ (ts : List Tr) (ρ : Rho), (ts.map (·.1)).Nodup → (∀ t ∈ ts, t.1 < ρ.length) → ∀ t ∈ ts, (putT ts ρ)[t.1]? = some (some (.o t.2.1))
  | [], _, _, _, t, h => by cases h
  | u :: ts, ρ, nd, hl, t, h => by
    show (putT ts (ρ.set u.1 (some (.o u.2.1))))[t.1]? = _
    rw [List.map_cons, List.nodup_cons] at nd
    rcases List.mem_cons.mp h with e | h
    · subst e
      rw [putT_ne ts _ _ fun v hv e => nd.1 (by rw [← e]; exact List.mem_map.mpr ⟨v, hv, rfl⟩), List.getElem?_set_self (hl _ List.mem_cons_self)]
    · exact putT_at ts _ nd.2 (fun v hv => by rw [List.length_set]; exact hl v (List.mem_cons_of_mem _ hv)) t h
section
variable {c : Cn} {E1 E2 A : AS} {ρ : Rho} {σ : L2.St} {H H' : Hp}
/-- behind a call that changed the lists at ts -/
theorem R.put {ts : List Tr} (r : R c E1 ρ σ H) (nd : (ts.map (·.1)).Nodup) (hs : ∀ t ∈ ts, (∃ d0, ρ[t.1]? = some (some (.o d0))) ∧ σ[t.1]? = some (some (.ref t.2.2)))
    (keep : ∀ b o, H b = some o → ¬ E1 b → (∀ t ∈ ts, t.2.2 ≠ b) → H' b = some o) (all : ∀ b o, H b = some o → ∃ o', H' b = some o')
    (outs : ∀ t ∈ ts, OwnAt c.K H' (fun b => OE ρ σ E1 b ∨ A b) t.2.1 t.2.2) (hA : ∀ b, A b → H b = none) (h2 : ∀ b, E2 b → E1 b ∨ A b) (eal : ∀ b, E2 b → ∃ o, H' b = some o) :
    R c E2 (putT ts ρ) σ H' ∧ OwnS (putT ts ρ) σ = OwnS ρ σ ∧ Keeps H' (fun b => OE ρ σ E1 b ∨ A b) H' (OE (putT ts ρ) σ E2) ∧ (∀ b o, H b = some o → ¬ E1 b → ¬ OwnS ρ σ b → H' b = some o) := by
  have hlt : ∀ t ∈ ts, t.1 < ρ.length := fun t ht => let ⟨⟨d0, h⟩, _⟩ := hs t ht; (List.getElem?_eq_some_iff.mp h).1
  have own' : ∀ (j : Nat) (e : D), (putT ts ρ)[j]? = some (some (.o e)) → (∃ e', ρ[j]? = some (some (.o e'))) ∧ ((∃ t ∈ ts, t.1 = j ∧ t.2.1 = e) ∨ ((∀ t ∈ ts, t.1 ≠ j) ∧ ρ[j]? = some (some (.o e)))) := fun j e q => by
    by_cases hj : ∃ t ∈ ts, t.1 = j
    · obtain ⟨t, ht, ej⟩ := hj
      subst ej
      rw [putT_at ts ρ nd hlt t ht] at q
      cases q
      exact ⟨(hs t ht).1, .inl ⟨t, ht, rfl, rfl⟩⟩
    · have hn : ∀ t ∈ ts, t.1 ≠ j := fun t ht e => hj ⟨t, ht, e⟩
      rw [putT_ne ts ρ j hn] at q
      exact ⟨⟨e, q⟩, .inr ⟨hn, q⟩⟩
  have oS : OwnS (putT ts ρ) σ = OwnS ρ σ := by
    funext b
    apply propext
    constructor
    · rintro ⟨j, e, q1, q2⟩
      obtain ⟨⟨e', q3⟩, _⟩ := own' j e q1
      exact ⟨j, e', q3, q2⟩
    · rintro ⟨j, e, q1, q2⟩
      by_cases hj : ∃ t ∈ ts, t.1 = j
      · obtain ⟨t, ht, ej⟩ := hj
        subst ej
        exact ⟨t.1, t.2.1, putT_at ts ρ nd hlt t ht, q2⟩
      · exact ⟨j, e, by rw [putT_ne ts ρ j fun t ht e => hj ⟨t, ht, e⟩]; exact q1, q2⟩
  have tS : ∀ t ∈ ts, OwnS ρ σ t.2.2 := fun t ht => let ⟨⟨d0, h⟩, h2⟩ := hs t ht; ⟨t.1, d0, h, h2⟩
  have kk : ∀ b o, H b = some o → ¬ E1 b → ¬ OwnS ρ σ b → H' b = some o := fun b o q n1 n2 => keep b o q n1 fun t ht e => n2 (e ▸ tS t ht)
  have k : Keeps H (OE ρ σ E1) H' (OE (putT ts ρ) σ E2) := fun b o q n => ⟨kk b o q (fun y => n (.inl y)) (fun y => n (.inr y)), fun y => by
    rcases y with y | y
    · rcases h2 b y with y | y
      · exact n (.inl y)
      · rw [hA b y] at q; cases q
    · rw [oS] at y; exact n (.inr y)⟩
  have k2 : Keeps H' (fun b => OE ρ σ E1 b ∨ A b) H' (OE (putT ts ρ) σ E2) := fun b o q n => ⟨q, fun y => by
    rcases y with y | y
    · rcases h2 b y with y | y
      · exact n (.inl (.inl y))
      · exact n (.inr y)
    · rw [oS] at y; exact n (.inl (.inr y))⟩
  refine ⟨⟨by rw [putT_len]; exact r.len, fun j e q => ?_, fun j e q => ?_, fun j l e f x q1 q2 g1 g2 => ?_, eal, fun b u q => let ⟨u', q'⟩ := r.al b u q; all b u' q', r.prt⟩, oS, k2, kk⟩
  · by_cases hj : ∃ t ∈ ts, t.1 = j
    · obtain ⟨t, ht, ej⟩ := hj
      subst ej
      rw [putT_at ts ρ nd hlt t ht] at q
      cases q
    · rw [putT_ne ts ρ j fun t ht e => hj ⟨t, ht, e⟩] at q
      obtain ⟨v, g1, g2⟩ := r.val j e q
      exact ⟨v, g1, g2.mono k⟩
  · obtain ⟨⟨e', q'⟩, q2⟩ := own' j e q
    obtain ⟨x, g1, g2, g3, g4⟩ := r.own j e' q'
    have nE2 : ¬ E2 x := fun y => by
      rcases h2 x y with y | y
      · exact g3 y
      · obtain ⟨u, hu⟩ := g2.there
        rw [hA x y] at hu; cases hu
    rcases q2 with ⟨t, ht, ej, ee⟩ | ⟨hn, q3⟩
    · subst ej; subst ee
      have h5 := (hs t ht).2
      rw [g1] at h5
      cases h5
      exact ⟨t.2.2, g1, (outs t ht).mono k2 (fun _ h => h), nE2, g4⟩
    · rw [q'] at q3
      cases q3
      refine ⟨x, g1, g2.mono k (fun o q => keep x o q g3 fun t ht e => hn t ht ?_), nE2, g4⟩
      obtain ⟨⟨d0, h5⟩, h6⟩ := hs t ht
      exact r.inj t.1 j d0 _ x h5 q' (by rw [← e]; exact h6) g1
  · obtain ⟨⟨e', q3⟩, _⟩ := own' j e q1
    obtain ⟨⟨f', q4⟩, _⟩ := own' l f q2
    exact r.inj j l e' f' x q3 q4 g1 g2
theorem call_args (r : R c E1 ρ σ H) : ∀ {mask : List Bool} {ps : List AR} {zs : List V} {as : List Addr} {ds outs : List D} {ρx ρ2 : Rho}, ArAt c E1 ρ σ H ps zs as → argsD mask ps ρ = some ds → putO mask ps outs ρx = some ρ2 → (ownIx mask ps).Nodup → as.Nodup → (∀ a ∈ as, E1 a) →
    ∃ (ms : List Addr) (ts : List Tr), ArgRel c.K H (OE ρ σ E1) mask ds zs ms ∧ ms.Nodup ∧ zs.length = mask.length ∧ ts.map (·.1) = ownIx mask ps ∧ ρ2 = putT ts ρx ∧
      (∀ t ∈ ts, (∃ d0, ρ[t.1]? = some (some (.o d0))) ∧ σ[t.1]? = some (some (.ref t.2.2))) ∧ (∀ a ∈ ms, (∃ t ∈ ts, t.2.2 = a) ∨ a ∈ as) ∧ (∀ H' O', Outs c.K H' O' outs ms → ∀ t ∈ ts, OwnAt c.K H' O' t.2.1 t.2.2)
  | [], ps, zs, as, ds, outs, ρx, ρ2, ha, hd, hp, _, _, _ => by
    cases ps with
    | nil =>
      cases zs with
      | nil =>
        cases as with
        | nil =>
          cases hd
          cases outs with
          | nil =>
            cases hp
            exact ⟨[], [], by unfold ArgRel; exact True.intro, List.nodup_nil, rfl, rfl, rfl, (fun t h => by cases h), (fun a h => by cases h), fun H' O' _ t h => by cases h⟩
          | cons _ _ => cases hp
        | cons _ _ => cases ha
      | cons _ _ => cases ha
    | cons p ps => cases p <;> cases hd
  | false :: mask, [], _, _, _, _, _, _, _, hd, _, _, _, _ => by cases hd
  | true :: mask, [], _, _, _, _, _, _, _, hd, _, _, _, _ => by cases hd
  | false :: mask, .sl _ :: ps, _, _, _, _, _, _, _, hd, _, _, _, _ => by cases hd
  | false :: mask, .ow _ :: ps, _, _, _, _, _, _, _, hd, _, _, _, _ => by cases hd
  | true :: mask, .tv _ :: ps, _, _, _, _, _, _, _, hd, _, _, _, _ => by cases hd
  | false :: mask, .tv d :: ps, zs, as, ds, outs, ρx, ρ2, ha, hd, hp, nd, na, hE => by
    cases zs with
    | nil => cases ha
    | cons z zs =>
      obtain ⟨ds', e1, e2⟩ := bindS hd
      cases e2
      obtain ⟨ms, ts, h1, h2, h3, h4, h5, h6, h7, h8⟩ := call_args r (ρx := ρx) ha.2 e1 hp nd na hE
      exact ⟨ms, ts, ⟨ha.1, h1⟩, h2, by simp [h3], h4, h5, h6, h7, h8⟩
  | true :: mask, .sl i :: ps, zs, as, ds, outs, ρx, ρ2, ha, hd, hp, nd, na, hE => by
    cases zs with
    | nil => cases ha
    | cons z zs =>
      unfold argsD at hd
      split at hd
      · rename_i d hd0
        obtain ⟨ds', e1, e2⟩ := bindS hd
        cases e2
        cases outs with
        | nil => cases hp
        | cons d' outs =>
          have nd' : i ∉ ownIx mask ps ∧ (ownIx mask ps).Nodup := List.nodup_cons.mp nd
          obtain ⟨ms, ts, h1, h2, h3, h4, h5, h6, h7, h8⟩ := call_args r (ρx := ρx.set i (some (.o d'))) ha.2 e1 hp nd'.2 na hE
          obtain ⟨a, g1, g2, g3, g4⟩ := r.own i d hd0
          have hz := ha.1
          rw [g1] at hz
          cases hz
          refine ⟨a :: ms, (i, d', a) :: ts, ⟨rfl, g2, h1⟩, List.nodup_cons.mpr ⟨fun m => ?_, h2⟩, by simp [h3], ?_, h5, fun t ht => ?_, fun b hb => ?_, fun H' O' ho t ht => ?_⟩
          · rcases h7 a m with ⟨t, ht, et⟩ | m
            · obtain ⟨⟨d0, q1⟩, q2⟩ := h6 t ht
              have e := r.inj t.1 i d0 d a q1 hd0 (by rw [← et]; exact q2) g1
              refine nd'.1 ?_
              rw [← h4, ← e]
              exact List.mem_map.mpr ⟨t, ht, rfl⟩
            · exact g3 (hE a m)
          · show i :: ts.map (·.1) = i :: ownIx mask ps
            rw [h4]
          · rcases List.mem_cons.mp ht with e | ht
            · subst e; exact ⟨⟨d, hd0⟩, g1⟩
            · exact h6 t ht
          · rcases List.mem_cons.mp hb with e | hb
            · exact .inl ⟨(i, d', a), List.mem_cons_self, e.symm⟩
            · rcases h7 b hb with ⟨t, ht, et⟩ | m
              · exact .inl ⟨t, List.mem_cons_of_mem _ ht, et⟩
              · exact .inr m
          · rcases List.mem_cons.mp ht with e | ht
            · subst e; exact ho.1
            · exact h8 H' O' ho.2 t ht
      · cases hd
  | true :: mask, .ow d :: ps, zs, as, ds, outs, ρx, ρ2, ha, hd, hp, nd, na, hE => by
    cases zs with
    | nil => cases ha
    | cons z zs =>
      cases as with
      | nil => cases ha
      | cons a as =>
        obtain ⟨ds', e1, e2⟩ := bindS hd
        cases e2
        cases outs with
        | nil => cases hp
        | cons d' outs =>
          have na' := List.nodup_cons.mp na
          obtain ⟨ms, ts, h1, h2, h3, h4, h5, h6, h7, h8⟩ := call_args r (ρx := ρx) ha.2.2 e1 hp nd na'.2 (fun b hb => hE b (List.mem_cons_of_mem _ hb))
          refine ⟨a :: ms, ts, ⟨ha.1, ha.2.1, h1⟩, List.nodup_cons.mpr ⟨fun m => ?_, h2⟩, by simp [h3], h4, h5, h6, fun b hb => ?_, fun H' O' ho t ht => h8 H' O' ho.2 t ht⟩
          · rcases h7 a m with ⟨t, ht, et⟩ | m
            · obtain ⟨⟨d0, q1⟩, q2⟩ := h6 t ht
              exact r.own_not ⟨t.1, d0, q1, by rw [← et]; exact q2⟩ (hE a List.mem_cons_self)
            · exact na'.1 m
          · rcases List.mem_cons.mp hb with e | hb
            · exact .inr (by rw [e]; exact List.mem_cons_self)
            · rcases h7 b hb with q | m
              · exact .inl q
              · exact .inr (List.mem_cons_of_mem _ m)
end

theorem call_read {X : Cx} {F : FnS} {fs : MAs} {σ : L2.St} {H : Hp} {Q : VK} (hq : tE X (eCall F fs) σ H Q) : tCall (spF X.K F) [] E0 (tAs X fs) σ H Q := by
  obtain ⟨c, E, ρ, rv, ρ', hK, hR, hf, q⟩ := hq
  obtain ⟨⟨ps, ρ1⟩, h1, hf⟩ := bindS hf
  obtain ⟨ds, h2, hf⟩ := bindS hf
  split at hf
  · rename_i nd
    obtain ⟨⟨rv', outs⟩, h3, hf⟩ := bindS hf
    obtain ⟨ρ2, h4, hf⟩ := bindS hf
    cases hf
    refine ⟨c, E, ρ, ps, ρ1, hK, hR, h1, fun zs as H1 ⟨s1, r1, a1, n1, nd1⟩ => ?_⟩
    have hE : ∀ a ∈ as, AddL E as a := fun a ha => .inr ha
    obtain ⟨ms, ts, g1, g2, g3, g4, g5, g6, g7, g8⟩ := call_args r1 (ρx := ρ1) a1 h2 h4 (of_decide_eq_true nd) nd1 hE
    have hms : ∀ a ∈ ms, OE ρ1 σ (AddL E as) a := fun a ha => by
      rcases g7 a ha with ⟨t, ht, et⟩ | m
      · obtain ⟨⟨d0, q1⟩, q2⟩ := g6 t ht
        exact .inr ⟨t.1, d0, q1, by rw [← et]; exact q2⟩
      · exact .inl (.inr m)
    have hE0 : ∀ a, ¬ E a ∨ ∃ o, H a = some o := fun a => Classical.byCases (fun h : E a => .inr (hR.eal a h)) .inl
    rw [← hK]
    refine ⟨OE ρ1 σ (AddL E as), ds, ms, _, outs, by rw [List.append_nil]; exact g3, h3, oe_there r1, by rw [List.append_nil]; exact g1, g2, hms, fun z H' ⟨p1, p2, p3⟩ => ?_⟩
    subst g5
    have keep : ∀ b o, H1 b = some o → ¬ AddL E as b → (∀ t ∈ ts, t.2.2 ≠ b) → H' b = some o := fun b o hb nb nt => p1 b o hb fun m => by
      rcases g7 b m with ⟨t, ht, et⟩ | m
      · exact nt t ht et
      · exact nb (.inr m)
    have stp : ∀ {ρ3 : Rho}, OwnS ρ3 σ = OwnS ρ1 σ → (∀ b o, H1 b = some o → ¬ AddL E as b → ¬ OwnS ρ1 σ b → H' b = some o) → Stp ρ σ H ρ3 σ H' := fun {ρ3} oS kk => by
      refine ⟨fun b o hb nb => ?_, fun b o hb => let ⟨o1, q1⟩ := s1.all b o hb; p2 b o1 q1, fun b o hb y => s1.own b o hb (by rw [← oS]; exact y)⟩
      have q1 := s1.keep b o hb nb
      have nO : ¬ OwnS ρ1 σ b := fun y => nb (s1.own b o hb y)
      have nas : b ∉ as := fun m => by rw [n1 b m] at hb; cases hb
      exact p1 b o q1 fun m => by
        rcases g7 b m with ⟨t, ht, et⟩ | m
        · obtain ⟨⟨d0, w1⟩, w2⟩ := g6 t ht
          exact nO ⟨t.1, d0, w1, by rw [← et]; exact w2⟩
        · exact nas m
    cases rv' with
    | v d =>
      obtain ⟨p4, p5⟩ := p3
      have ko : Keeps H' (OE ρ1 σ (AddL E as)) H' (fun b => OE ρ1 σ (AddL E as) b ∨ False) := fun b o h n => ⟨h, fun y => y.elim n id⟩
      obtain ⟨r2, oS, k2, kk⟩ := r1.put (E2 := E) (A := fun _ => False) (by rw [g4]; exact of_decide_eq_true nd) g6 keep p2 (fun t ht => (g8 _ _ p5 t ht).mono ko (fun _ h => h)) (fun _ h => h.elim) (fun b h => .inl (.inl h))
        (fun b h => let ⟨o, q1⟩ := hR.eal b h; let ⟨o1, q2⟩ := s1.all b o q1; p2 b o1 q2)
      exact q z H' ⟨stp oS kk, r2, (p4.mono ko).mono k2⟩
    | o d =>
      obtain ⟨a, rfl, n2, p4, p5⟩ := p3
      have nH : H a = none := by
        cases w : H a with
        | none => rfl
        | some u => obtain ⟨u', q'⟩ := s1.all a u w; rw [n2] at q'; cases q'
      have ko : Keeps H' (Add (OE ρ1 σ (AddL E as)) a) H' (fun b => OE ρ1 σ (AddL E as) b ∨ b = a) := fun b o h n => ⟨h, n⟩
      obtain ⟨u, hu⟩ := p4.there
      obtain ⟨r2, oS, k2, kk⟩ := r1.put (E2 := Add E a) (A := fun b => b = a) (by rw [g4]; exact of_decide_eq_true nd) g6 keep p2 (fun t ht => (g8 _ _ p5 t ht).mono ko (fun _ h => h)) (fun b h => by rw [h]; exact n2)
        (fun b h => h.elim (fun h => .inl (.inl h)) .inr) (fun b h => h.elim (fun h => let ⟨o, q1⟩ := hR.eal b h; let ⟨o1, q2⟩ := s1.all b o q1; p2 b o1 q2) fun e => ⟨u, by rw [e]; exact hu⟩)
      exact q _ H' ⟨a, rfl, stp oS kk, nH, r2, (p4.mono ko (fun _ h => h)).mono k2 (fun _ h => h)⟩
  · cases hf
end Z
namespace Z
open PySem PySem.Spec L2
open PyProof.Rows hiding St

/-! ## a def by its body -/
def prOf : Nat → List Bool → List Nat
  | _, [] => []
  | n, true :: ms => n :: prOf (n + 1) ms
  | n, false :: ms => prOf (n + 1) ms
def initR : List Bool → List D → List (Option RV)
  | true :: ms, d :: ds => some (.o d) :: initR ms ds
  | false :: ms, d :: ds => some (.v d) :: initR ms ds
  | _, _ => []
def outsOf (ρ : Rho) : List Nat → Option (List D)
  | [] => some []
  | i :: is => match ρ[i]? with
    | some (some (.o d)) => (outsOf ρ is).bind fun ds => some (d :: ds)
    | _ => none
def runF (n : Nat) (mask : List Bool) (body : SS) : List D → Option (RV × List D) := fun ds =>
  if ds.length = mask.length then (body (initR mask ds ++ List.replicate (n - mask.length) none)).bind fun r => match r.1 with
    | .rt rv => (outsOf r.2 (prOf 0 mask)).bind fun os => some (rv, os)
    | .nx => (outsOf r.2 (prOf 0 mask)).bind fun os => some (.v .none, os)
    | _ => none
  else none
theorem prOf_ge : ∀ {ms : List Bool} {n i : Nat}, i ∈ prOf n ms → n ≤ i
  | [], _, _, h => by cases h
  | true :: ms, n, i, h => by
    rcases List.mem_cons.mp h with e | h
    · rw [e]; exact Nat.le_refl _
    · exact Nat.le_trans (Nat.le_succ _) (prOf_ge h)
  | false :: ms, n, i, h => Nat.le_trans (Nat.le_succ _) (prOf_ge (ms := ms) h)
section
variable {K : PySem.W.Frag} {H : Hp} {O : AS}
theorem arg_len : ∀ {mask : List Bool} {ds : List D} {vs : List V} {as : List Addr}, ArgRel K H O mask ds vs as → ds.length = mask.length ∧ vs.length = mask.length ∧ (initR mask ds).length = mask.length
  | [], [], [], [], _ => ⟨rfl, rfl, rfl⟩
  | false :: ms, d :: ds, v :: vs, as, h => let ⟨a, b, c⟩ := arg_len h.2; ⟨by simp [a], by simp [b], by simp [initR, c]⟩
  | true :: ms, d :: ds, v :: vs, a :: as, h => let ⟨a, b, c⟩ := arg_len h.2.2; ⟨by simp [a], by simp [b], by simp [initR, c]⟩
  | [], [], [], _ :: _, h => by cases h
  | [], [], _ :: _, _, h => by cases h
  | [], _ :: _, _, _, h => by cases h
  | true :: _, [], _, _, h => by cases h
  | false :: _, [], _, _, h => by cases h
  | true :: _, _ :: _, [], _, h => by cases h
  | false :: _, _ :: _, [], _, h => by cases h
  | true :: _, _ :: _, _ :: _, [], h => by cases h
/-- what the slots hold at the entry -/
theorem arg_at : ∀ {mask : List Bool} {ds : List D} {vs : List V} {as : List Addr} (n : Nat), ArgRel K H O mask ds vs as →
    (∀ (i : Nat) (d : D), (initR mask ds)[i]? = some (some (.v d)) → ∃ v, vs[i]? = some v ∧ Rep K H O d v) ∧
    (∀ (i : Nat) (d : D), (initR mask ds)[i]? = some (some (.o d)) → ∃ a, vs[i]? = some (.ref a) ∧ OwnAt K H O d a ∧ a ∈ as ∧ n + i ∈ prOf n mask) ∧
    (∀ a ∈ as, ∃ (i : Nat) (d : D), (initR mask ds)[i]? = some (some (.o d)) ∧ vs[i]? = some (.ref a)) ∧
    (as.Nodup → ∀ (i j : Nat) (d e : D) (a : Addr), (initR mask ds)[i]? = some (some (.o d)) → (initR mask ds)[j]? = some (some (.o e)) → vs[i]? = some (.ref a) → vs[j]? = some (.ref a) → i = j) ∧
    (∃ is : List Nat, prOf n mask = is.map (n + ·) ∧ Paired (fun (i : Nat) (a : Addr) => vs[i]? = some (.ref a)) is as)
  | [], [], [], [], n, _ => ⟨(fun i d h => by simp [initR] at h), (fun i d h => by simp [initR] at h), (fun a h => by cases h), (fun _ i j d e a h => by simp [initR] at h), [], rfl, Paired.nil⟩
  | false :: ms, d :: ds, v :: vs, as, n, h => by
    obtain ⟨h1, h2, h3, h4, is, h5, h6⟩ := arg_at (n + 1) h.2
    refine ⟨fun i e q => ?_, fun i e q => ?_, fun a ha => ?_, fun nd i j e f a q1 q2 g1 g2 => ?_, is.map (· + 1), ?_, ?_⟩
    · cases i with
      | zero => simp [initR] at q; subst q; exact ⟨v, rfl, h.1⟩
      | succ i => obtain ⟨w, g1, g2⟩ := h1 i e (by simpa [initR] using q); exact ⟨w, by simpa using g1, g2⟩
    · cases i with
      | zero => simp [initR] at q
      | succ i =>
        obtain ⟨w, g1, g2, g3, g4⟩ := h2 i e (by simpa [initR] using q)
        exact ⟨w, by simpa using g1, g2, g3, by rw [show n + (i + 1) = n + 1 + i by omega]; exact g4⟩
    · obtain ⟨i, e, g1, g2⟩ := h3 a ha
      exact ⟨i + 1, e, by simpa [initR] using g1, by simpa using g2⟩
    · cases i with
      | zero => simp [initR] at q1
      | succ i =>
        cases j with
        | zero => simp [initR] at q2
        | succ j => rw [h4 nd i j e f a (by simpa [initR] using q1) (by simpa [initR] using q2) (by simpa using g1) (by simpa using g2)]
    · show prOf (n + 1) ms = _
      rw [h5, List.map_map]
      exact List.map_congr_left fun i _ => by show n + 1 + i = n + (i + 1); omega
    · clear h1 h2 h3 h4 h5 h
      induction h6 with
      | nil => exact .nil
      | cons r t ih => exact .cons (by simpa using r) ih
  | true :: ms, d :: ds, v :: vs, a :: as, n, h => by
    obtain ⟨ev, o, h⟩ := h
    obtain ⟨h1, h2, h3, h4, is, h5, h6⟩ := arg_at (n + 1) h
    subst ev
    refine ⟨fun i e q => ?_, fun i e q => ?_, fun b hb => ?_, fun nd i j e f x q1 q2 g1 g2 => ?_, 0 :: is.map (· + 1), ?_, .cons rfl ?_⟩
    · cases i with
      | zero => simp [initR] at q
      | succ i => obtain ⟨w, g1, g2⟩ := h1 i e (by simpa [initR] using q); exact ⟨w, by simpa using g1, g2⟩
    · cases i with
      | zero => simp [initR] at q; subst q; exact ⟨a, rfl, o, List.mem_cons_self, List.mem_cons_self⟩
      | succ i =>
        obtain ⟨w, g1, g2, g3, g4⟩ := h2 i e (by simpa [initR] using q)
        exact ⟨w, by simpa using g1, g2, List.mem_cons_of_mem _ g3, by rw [show n + (i + 1) = n + 1 + i by omega]; exact List.mem_cons_of_mem _ g4⟩
    · rcases List.mem_cons.mp hb with e | hb
      · exact ⟨0, d, rfl, by rw [e]; rfl⟩
      · obtain ⟨i, e, g1, g2⟩ := h3 b hb
        exact ⟨i + 1, e, by simpa [initR] using g1, by simpa using g2⟩
    · have nd' := List.nodup_cons.mp nd
      have out : ∀ (k : Nat) (u : D), (initR ms ds)[k]? = some (some (.o u)) → vs[k]? = some (.ref a) → False := fun k u w1 w2 => by
        obtain ⟨y, y1, y2, y3, _⟩ := h2 k u w1
        rw [w2] at y1
        cases y1
        exact nd'.1 y3
      cases i with
      | zero =>
        cases j with
        | zero => rfl
        | succ j =>
          have ex : x = a := by simpa using g1.symm
          subst ex
          exact (out j f (by simpa [initR] using q2) (by simpa using g2)).elim
      | succ i =>
        cases j with
        | zero =>
          have ex : x = a := by simpa using g2.symm
          subst ex
          exact (out i e (by simpa [initR] using q1) (by simpa using g1)).elim
        | succ j => rw [h4 nd'.2 i j e f x (by simpa [initR] using q1) (by simpa [initR] using q2) (by simpa using g1) (by simpa using g2)]
    · show n :: prOf (n + 1) ms = _
      rw [h5, List.map_cons, List.map_map]
      congr 1
      exact List.map_congr_left fun i _ => by show n + 1 + i = n + (i + 1); omega
    · clear h1 h2 h3 h4 h5 h
      induction h6 with
      | nil => exact .nil
      | cons r t ih => exact .cons (by simpa using r) ih
  | [], [], [], _ :: _, _, h => by cases h
  | [], [], _ :: _, _, _, h => by cases h
  | [], _ :: _, _, _, _, h => by cases h
  | true :: _, [], _, _, _, h => by cases h
  | false :: _, [], _, _, _, h => by cases h
  | true :: _, _ :: _, [], _, _, h => by cases h
  | false :: _, _ :: _, [], _, _, h => by cases h
  | true :: _, _ :: _, _ :: _, [], _, h => by cases h
end
theorem outs_at {c : Cn} {E : AS} {ρ : Rho} {σ : L2.St} {H : Hp} {O' : AS} (r : R c E ρ σ H) (k : Keeps H (OE ρ σ E) H O') : ∀ {is : List Nat} {as : List Addr} {ds : List D}, outsOf ρ is = some ds → Paired (fun (i : Nat) (a : Addr) => σ[i]? = some (some (.ref a))) is as →
    Outs c.K H O' ds as ∧ ∀ a ∈ as, OwnS ρ σ a
  | [], [], ds, h, _ => by cases h; exact ⟨by unfold Outs; exact True.intro, fun a h => by cases h⟩
  | i :: is, a :: as, ds, h, .cons p t => by
    unfold outsOf at h
    split at h
    · rename_i d hd
      obtain ⟨ds', e1, e2⟩ := bindS h
      cases e2
      obtain ⟨g1, g2⟩ := outs_at r k e1 t
      obtain ⟨x, x1, x2, _⟩ := r.own i d hd
      rw [p] at x1
      cases x1
      refine ⟨⟨x2.mono k (fun _ h => h), g1⟩, fun b hb => ?_⟩
      rcases List.mem_cons.mp hb with e | hb
      · rw [e]; exact ⟨i, d, hd, p⟩
      · exact g2 b hb
    · cases h

theorem app_get {α : Type} {l r : List α} {i : Nat} {x : α} (h : (l ++ r)[i]? = some x) : (i < l.length ∧ l[i]? = some x) ∨ x ∈ r := by
  by_cases hi : i < l.length
  · rw [List.getElem?_append_left hi] at h
    exact .inl ⟨hi, h⟩
  · rw [List.getElem?_append_right (by omega)] at h
    exact .inr (List.mem_of_getElem? h)
section
variable {P : Program} {w : World} {K : PySem.W.Frag} {mg : Str → Option Value} {base : Heap}
theorem Paired.imp' {α β : Type} {F G : α → β → Prop} {l : List α} {m : List β} (h : Paired F l m) (f : ∀ a b, F a b → G a b) : Paired G l m := Paired.mapP h f
theorem zfn {x qual : Str} {st : Stmt} {f : Addr} {fd : FuncData} {N ps : List Str} {k : Nat} {mask : List Bool} {body : SS} (F : Fun K x qual st f fd) (S : FnScope N ps (defScope st)) (hm : mask.length = ps.length) (hN : ps.length ≤ N.length)
    (hb : ∀ (cdv : Value) (A : Around) (outer : List Env) (s : Shared) (H : Hp) (E : XK), Room k (A.deeper (envOfC qual (defScope st) s.heap.objs.size f cdv)) →
      PSs (cxOf CX0 P w K mg base N qual (defScope st) f cdv A outer s H E).nox (defBody st) (tS (cxOf CX0 P w K mg base N qual (defScope st) f cdv A outer s H E).nox (prOf 0 mask) body)) :
    FnOk P w K mg base CX0 (k + 1) f fd ps (spF K ⟨mask, runF N.length mask body⟩) := by
  refine F.ok S (fun vs H Q E h => ?_) (fun cdv A outer s H vs Q E hr h => ⟨_, hb cdv A outer s H E hr, ?_⟩)
  · obtain ⟨O, ds, ms, rv, outs, h1, _⟩ := h
    exact h1.trans hm
  · obtain ⟨O, ds, ms, rv, outs, h1, h2, h3, h4, h5, h6, q⟩ := h
    have h2 : runF N.length mask body ds = some (rv, outs) := h2
    obtain ⟨l1, l2, l3⟩ := arg_len h4
    unfold runF at h2
    rw [if_pos l1] at h2
    obtain ⟨⟨out, ρ'⟩, e1, e2⟩ := bindS h2
    have l1' : vs.length = mask.length := l2
    obtain ⟨a1, a2, a3, a4, is, a5, a6⟩ := arg_at 0 h4
    have a5 : prOf 0 mask = is := by rw [a5]; simp
    have hst : L2.start N vs = vs.map some ++ List.replicate (N.length - mask.length) none := by unfold L2.start; rw [l1']
    generalize hρ : initR mask ds ++ List.replicate (N.length - mask.length) none = ρ at e1
    have getρ : ∀ (i : Nat) (rv : RV), ρ[i]? = some (some rv) → (initR mask ds)[i]? = some (some rv) ∧ i < mask.length := fun i rv q => by
      rw [← hρ] at q
      rcases app_get q with ⟨w1, w2⟩ | w2
      · exact ⟨w2, by rw [← l3]; exact w1⟩
      · exact nomatch (List.mem_replicate.mp w2).2
    have getσ : ∀ (i : Nat) (v : V), i < mask.length → ((L2.start N vs)[i]? = some (some v) ↔ vs[i]? = some v) := fun i v hi => by
      rw [hst, List.getElem?_append_left (by rw [List.length_map]; omega), List.getElem?_map]
      cases vs[i]? with
      | none => simp
      | some u => simp
    have oS : OwnS ρ (L2.start N vs) = fun b => b ∈ ms := by
      funext b
      apply propext
      constructor
      · rintro ⟨i, d, q1, q2⟩
        obtain ⟨q3, hi⟩ := getρ i _ q1
        obtain ⟨a, w1, _, w2, _⟩ := a2 i d q3
        rw [getσ i _ hi] at q2
        rw [q2] at w1
        cases w1
        exact w2
      · intro hb
        obtain ⟨i, d, q1, q2⟩ := a3 b hb
        have hi : i < mask.length := by rw [← l3]; exact (List.getElem?_eq_some_iff.mp q1).1
        refine ⟨i, d, ?_, (getσ i _ hi).mpr q2⟩
        rw [← hρ, List.getElem?_append_left (by rw [l3]; exact hi)]
        exact q1
    have oE : OE ρ (L2.start N vs) (fun b => O b ∧ b ∉ ms) = O := by
      funext b
      apply propext
      unfold OE
      rw [oS]
      constructor
      · rintro (h | h)
        · exact h.1
        · exact h6 b h
      · intro h
        by_cases hb : b ∈ ms
        · exact .inr hb
        · exact .inl ⟨h, hb⟩
    have hR : R ⟨K, H, L2.start N vs, prOf 0 mask⟩ (fun b => O b ∧ b ∉ ms) ρ (L2.start N vs) H := by
      refine ⟨?_, fun i d q => ?_, fun i d q => ?_, fun i j d e a q1 q2 g1 g2 => ?_, fun b h => h3 b h.1, fun b o h => ⟨o, h⟩, fun i _ => rfl⟩
      · rw [← hρ, hst, List.length_append, List.length_append, l3, List.length_map, l1']
        simp
      · obtain ⟨q1, hi⟩ := getρ i _ q
        obtain ⟨v, w1, w2⟩ := a1 i d q1
        rw [oE]
        exact ⟨v, (getσ i _ hi).mpr w1, w2⟩
      · obtain ⟨q1, hi⟩ := getρ i _ q
        obtain ⟨a, w1, w2, w3, w4⟩ := a2 i d q1
        rw [oE]
        exact ⟨a, (getσ i _ hi).mpr w1, w2, fun z => z.2 w3, .inr ⟨i, by rw [Nat.zero_add] at w4; exact w4, (getσ i _ hi).mpr w1⟩⟩
      · obtain ⟨q3, hi⟩ := getρ i _ q1
        obtain ⟨q4, hj⟩ := getρ j _ q2
        exact a4 h5 i j d e a q3 q4 ((getσ i _ hi).mp g1) ((getσ j _ hj).mp g2)
    have pairs : ∀ σ' : L2.St, (∀ i ∈ prOf 0 mask, σ'[i]? = (L2.start N vs)[i]?) → Paired (fun (i : Nat) (a : Addr) => σ'[i]? = some (some (.ref a))) (prOf 0 mask) ms := fun σ' hs => by
      rw [a5] at hs ⊢
      have lt : ∀ i ∈ is, i < mask.length := fun i hi => by
        have hi' : i ∈ prOf 0 mask := by rw [a5]; exact hi
        clear hs
        have gen : ∀ (ms : List Bool) (n : Nat), i ∈ prOf n ms → i < n + ms.length := by
          intro ms
          induction ms with
          | nil => intro n h; cases h
          | cons b ms ih =>
            intro n h
            cases b with
            | true =>
              rcases List.mem_cons.mp h with e | h
              · rw [e, List.length_cons]; omega
              · have := ih (n + 1) h; rw [List.length_cons]; omega
            | false => have := ih (n + 1) h; rw [List.length_cons]; omega
        have := gen mask 0 hi'
        omega
      have gen2 : ∀ {is' : List Nat} {ms' : List Addr}, Paired (fun (i : Nat) (a : Addr) => vs[i]? = some (.ref a)) is' ms' → (∀ i ∈ is', σ'[i]? = (L2.start N vs)[i]?) → (∀ i ∈ is', i < mask.length) → Paired (fun (i : Nat) (a : Addr) => σ'[i]? = some (some (.ref a))) is' ms' := by
        intro is' ms' hp hs lt
        induction hp with
        | nil => exact .nil
        | cons r t ih =>
          refine .cons ?_ (ih (fun i hi => hs i (List.mem_cons_of_mem _ hi)) fun i hi => lt i (List.mem_cons_of_mem _ hi))
          rw [hs _ List.mem_cons_self]
          exact (getσ _ _ (lt _ List.mem_cons_self)).mpr r
      exact gen2 (by simpa using a6) hs lt
    have fin : ∀ (E' : AS) (σ' : L2.St) (H' : Hp), Stp ρ (L2.start N vs) H ρ' σ' H' → R ⟨K, H, L2.start N vs, prOf 0 mask⟩ E' ρ' σ' H' → outsOf ρ' (prOf 0 mask) = some outs → ∀ A : AS, (∀ b, (O b ∨ A b) → ((O b ∧ b ∉ ms) ∨ A b) → E' b) →
        Outs K H' (fun b => O b ∨ A b) outs ms ∧ Keeps H' (OE ρ' σ' E') H' (fun b => O b ∨ A b) := fun E' σ' H' s1 r1 ho A hA => by
      have own : ∀ a ∈ ms, OwnS ρ' σ' a := (outs_at r1 (O' := OE ρ' σ' E') Keeps.rfl ho (pairs σ' r1.prt)).2
      have kk : Keeps H' (OE ρ' σ' E') H' (fun b => O b ∨ A b) := fun b o hb nb => ⟨hb, fun y => by
        by_cases hm : b ∈ ms
        · exact nb (.inr (own b hm))
        · refine nb (.inl (hA b y ?_))
          rcases y with y | y
          · exact .inl ⟨y, hm⟩
          · exact .inr y⟩
      exact ⟨(outs_at r1 kk ho (pairs σ' r1.prt)).1, kk⟩
    have keep : ∀ (σ' : L2.St) (H' : Hp), Stp ρ (L2.start N vs) H ρ' σ' H' → ∀ b o, H b = some o → b ∉ ms → H' b = some o := fun σ' H' s1 b o hb nb => s1.keep b o hb (by rw [oS]; exact nb)
    have noA : (fun b => O b ∨ False) = O := by funext b; simp
    refine ⟨⟨K, H, L2.start N vs, prOf 0 mask⟩, _, ρ, out, ρ', rfl, rfl, hR, e1, ?_⟩
    cases out with
    | bk => cases e2
    | ct => cases e2
    | nx =>
      obtain ⟨os, e3, e4⟩ := bindS e2
      cases e4
      intro σ' H' p
      have f := fin _ σ' H' p.1 p.2 e3 (fun _ => False) (fun b _ h => h.elim id False.elim)
      rw [noA] at f
      exact q .non H' ⟨keep σ' H' p.1, p.1.all, .non, f.1⟩
    | rt rv' =>
      obtain ⟨os, e3, e4⟩ := bindS e2
      cases e4
      intro z σ' H' p
      cases rv with
      | v d =>
        obtain ⟨p1, p2⟩ := p
        have f := fin _ σ' H' p1.1 p1.2 e3 (fun _ => False) (fun b _ h => h.elim id False.elim)
        rw [noA] at f
        exact q z H' ⟨keep σ' H' p1.1, p1.1.all, p2.mono f.2, f.1⟩
      | o d =>
        obtain ⟨a, rfl, s1, n0, r1, o1⟩ := p
        have f := fin _ σ' H' s1 r1 e3 (fun b => b = a) (fun b _ h => h)
        exact q _ H' ⟨keep σ' H' s1, s1.all, a, rfl, n0, o1.mono f.2 (fun _ h => h), f.1⟩
end
end Z
/-! ## enumerate over a tuple, ahead of the hand layer -/
namespace EnT
open PySem PySem.Spec
open PySem.Sem (wp)
open AutoSeq1 (wpAny_loadPart')
open PyProof.Rows hiding St

/-- the iterator of a tuple that an enumerate holds, just made -/
abbrev tIt (l : Addr) : Obj := { cls := .type "tuple_iterator", data := .fields #[.ref l, .int 0 0] }
abbrev eOb (it : Addr) : Obj := { cls := .type "enumerate", data := .fields #[.none, .bool false, .ref it, rawInt 0, .none, .none] }
theorem new_meets (l : Addr) (items : Array Value) (n : Nat) (dc : Option Addr) (sl : Array (Option Value)) :
    Meets (Builtin.«enumerate.__new__» ⟨[.type "enumerate", .ref l], []⟩) (fun _ R s =>
      s.heap.get? l = some { cls := .type "tuple", dict := dc, data := .seq items n, slots := sl } ∧ R (.ok (.ret (.ref (s.heap.push (tIt l)).objs.size))) { s with heap := (s.heap.push (tIt l)).push (eOb s.heap.objs.size) }) := by
  refine .of_wp fun prog w A R s h => ?_
  obtain ⟨hp, g, d, tk, os⟩ := s
  obtain ⟨hl, h⟩ := h
  have hsub := sub_enumerate
  have hT : Heap.IsTuple (Shared.heap ⟨hp, g, d, tk, os⟩) l items := ⟨_, hl, rfl, n, rfl⟩
  wp_walk using wpAny_loadPart' hl
  refine wpAny_stack_any fun st => wpAny_pure ?_
  split
  · rename_i c _ _ _ _ _
    cases (c == Value.type "enumerate") <;> (wp_walk using wpAny_loadPart' hl, wpAny_pyIter_tuple hT; exact ⟨_, rfl, h⟩)
  · wp_walk using wpAny_loadPart' hl, wpAny_pyIter_tuple hT
    exact ⟨_, rfl, h⟩
section
variable {prog : Program} {w : World} {A : Around} {E : Value → Shared → Prop} {s : Shared}
theorem call_en {l : Addr} {items : Array Value} {Q : Value → Shared → Prop} (hL : s.heap.IsTuple l items)
    (h : ∀ h', IsEnum h' (s.heap.objs.size + 1) s.heap.objs.size 0 .none → h'.IsTupleIter s.heap.objs.size l 0 → (∀ b o, s.heap.get? b = some o → h'.get? b = some o) → Q (.ref (s.heap.objs.size + 1)) { s with heap := h' }) :
    wpAny (model prog w) A (call (.type "enumerate") [.ref l]) Q E s := by
  obtain ⟨⟨c, dc, dt, sl⟩, hl, hc, n, hd⟩ := hL
  cases (show c = .type "tuple" from hc)
  cases (show dt = .seq items n from hd)
  have hz : (s.heap.push (tIt l)).objs.size = s.heap.objs.size + 1 := Heap.size_push ..
  have he : IsEnum ((s.heap.push (tIt l)).push (eOb s.heap.objs.size)) (s.heap.objs.size + 1) s.heap.objs.size 0 .none := by
    have q := Heap.get?_push_size (s.heap.push (tIt l)) (o := eOb s.heap.objs.size) rfl
    rw [hz] at q; exact q
  refine callType_new F.called_enumerate (by decide) (F.typeCall_enumerate_1 _) (F.newCall_enumerate_1 _) (fun o => F.args_object_init_2 o _) F.entry_enumerate_new (new_meets l items n dc sl) ⟨hl, ?_⟩
  show _ ∧ _
  rw [hz]
  exact ⟨⟨_, he, rfl⟩, h _ he ⟨_, Heap.get?_push_of_some _ (Heap.get?_push_size _ rfl), rfl, rfl⟩ fun b o x => Heap.get?_push_of_some _ (Heap.get?_push_of_some _ x)⟩
theorem next_item {e it l : Addr} {i : Nat} {items : Array Value} {x old : Value} {Q : Option Value → Shared → Prop}
    (he : IsEnum s.heap e it i old) (hit : s.heap.IsTupleIter it l i) (hl : s.heap.IsTuple l items) (hx : items[i]? = some x) (hne : e ≠ it)
    (hQ : ∀ h', IsEnumOut h' e it ((i : Int) + 1) x s.heap.objs.size → h'.IsTupleIter it l (i + 1) → h'.get? s.heap.objs.size = some { cls := .type "tuple", data := .seq #[.int i s.toks, x] } →
      (∀ b o, b ≠ e → b ≠ it → s.heap.get? b = some o → h'.get? b = some o) → Q (some (.ref s.heap.objs.size)) { s with heap := h', toks := s.toks + 1 }) :
    wpAny (model prog w) A (pyNext (.ref e)) Q E s := by
  have hT : s.TypeIs (.ref e) "enumerate" := ⟨_, he, rfl⟩
  have ne := Ne.symm hne
  unfold pyNext
  refine wpAny_bind (wpAny_attempt (wpAny_callSpecial?_slot (name := Str.ofString "__next__") hT F.slot_enumerate_next (wpAny_call_entry F.slot_enumerate_next hT F.entry_enumerate_next ?_ (F.args_enumerate_next_1 _))))
  obtain ⟨hp, g, d, tk, os⟩ := s
  show wpAny _ _ (field (.ref e) 2 >>= _) _ _ _
  refine wpAny_bind (wpAny_field he rfl (x := .ref it) rfl (wpAny_bind (RZ.nextOf_tuple_item hit hl hx fun h1 hit1 (s1 : Heap.SameBut it hp h1) => ?_)))
  have he1 : IsEnum h1 e it i old := (s1.2 e hne).trans he
  show wpAny _ _ (field (.ref e) 3 >>= _) _ _ ⟨h1, g, d, tk, os⟩
  refine wpAny_bind (wpAny_field he1 rfl (x := rawInt i) rfl ?_)
  show wpAny _ _ (field (.ref e) 4 >>= _) _ _ ⟨h1, g, d, tk, os⟩
  refine wpAny_bind (wpAny_field he1 rfl (x := .none) rfl ?_)
  show wpAny _ _ (mkInt i >>= _) _ _ ⟨h1, g, d, tk, os⟩
  refine wpAny_bind (wpAny_mkInt ?_)
  show wpAny _ _ (setField (.ref e) 3 (rawInt ((i : Int) + 1)) >>= _) _ _ ⟨h1, g, d, tk + 1, os⟩
  refine wpAny_bind (wpAny_setField_rec he1 (by simp) fun h2 (he2 : IsEnum h2 e it ((i : Int) + 1) old) (s2 : Heap.SameBut e h1 h2) => ?_)
  show wpAny _ _ (setField (.ref e) 4 .none >>= _) _ _ ⟨h2, g, d, tk + 1, os⟩
  refine wpAny_bind (wpAny_setField_rec he2 (by simp) fun h3 (he3 : IsEnum h3 e it ((i : Int) + 1) old) (s3 : Heap.SameBut e h2 h3) => ?_)
  show wpAny _ _ (newTuple [.int i tk, x] >>= _) _ _ ⟨h3, g, d, tk + 1, os⟩
  refine wpAny_bind (wpAny_newTuple ?_)
  have hsz : h3.objs.size = hp.objs.size := by rw [s3.1, s2.1, s1.1]
  have hel : e < hp.objs.size := Heap.lt_size he
  obtain ⟨h4, hh⟩ : ∃ h4, h4 = h3.push { cls := .type "tuple", data := .seq #[.int i tk, x] } := ⟨_, rfl⟩
  have he4 : IsEnum h4 e it ((i : Int) + 1) old := by rw [hh]; exact Heap.get?_push_of_some _ he3
  have t4 : h4.get? hp.objs.size = some { cls := .type "tuple", data := .seq #[.int i tk, x] } := by rw [hh, ← hsz]; exact Heap.get?_push_size _ rfl
  have k4 : ∀ b o, b ≠ e → b ≠ it → hp.get? b = some o → h4.get? b = some o := fun b o be bi q => by
    rw [hh]; exact Heap.get?_push_of_some _ (s3.extBut b o be (s2.extBut b o be (s1.extBut b o bi q)))
  have it4 : h4.IsTupleIter it l (i + 1) := by
    rw [hh]
    obtain ⟨o, q, r⟩ := (hit1.extBut s2.extBut ne).extBut s3.extBut ne
    exact ⟨o, Heap.get?_push_of_some _ q, r⟩
  show wpAny _ _ (Builtin.SmallTypes.ownedTupleIsFree (.ref e) >>= _) _ _ ⟨h3.push { cls := .type "tuple", data := .seq #[.int i tk, x] }, g, d, tk + 1, os⟩
  rw [← hh, hsz]
  clear hh he3 s3 he2 s2 he1 s1 hit1 hsz
  refine wpAny_bind ?_
  unfold Builtin.SmallTypes.ownedTupleIsFree
  refine wpAny_bind (wpAny_field he4 rfl (x := .none) rfl (wpAny_pure ?_))
  simp only [if_true]
  refine wpAny_bind (wpAny_rule (wpAny_bind (wpAny_field he4 rfl (x := old) rfl ?_)))
  refine wpAny_bind (wpAny_setField_rec he4 (by simp) fun h5 (he5 : IsEnum h5 e it ((i : Int) + 1) x) (s5 : Heap.SameBut e h4 h5) => ?_)
  show wpAny _ _ (Builtin.SmallTypes.ownedTupleHandOut (.ref e) (.ref hp.objs.size) >>= _) _ _ ⟨h5, g, d, tk + 1, os⟩
  refine wpAny_bind ?_
  unfold Builtin.SmallTypes.ownedTupleHandOut
  refine wpAny_bind (wpAny_setField_rec he5 (by simp) fun h6 (he6 : IsEnumOut h6 e it ((i : Int) + 1) x hp.objs.size) (s6 : Heap.SameBut e h5 h6) => ?_)
  refine wpAny_setField_rec he6 (by simp) fun h7 (he7 : IsEnumOut h7 e it ((i : Int) + 1) x hp.objs.size) (s7 : Heap.SameBut e h6 h7) => ?_
  have up : ∀ b o, b ≠ e → h4.get? b = some o → h7.get? b = some o := fun b o be q => s7.extBut b o be (s6.extBut b o be (s5.extBut b o be q))
  exact wpAny_bind (wpAny_letGo (wpAny_pure ⟨_, rfl, wpAny_pure (hQ h7 he7 (it4.at fun o q => up it o ne q) (up _ _ (Nat.ne_of_gt hel) t4) fun b o be bi q => up b o be (k4 b o be bi q))⟩))
theorem next_end {e it l : Addr} {i : Nat} {items : Array Value} {old : Value} {Q : Option Value → Shared → Prop} (hh : A.handled = none)
    (he : IsEnum s.heap e it i old) (hit : s.heap.IsTupleIter it l i) (hl : s.heap.IsTuple l items) (hx : items[i]? = none)
    (hQ : ∀ h', Heap.ExtBut it s.heap h' → Q none { s with heap := h' }) : wpAny (model prog w) A (pyNext (.ref e)) Q E s := by
  have hT : s.TypeIs (.ref e) "enumerate" := ⟨_, he, rfl⟩
  unfold pyNext
  refine wpAny_bind (wpAny_attempt (wpAny_callSpecial?_slot (name := Str.ofString "__next__") hT F.slot_enumerate_next (wpAny_call_entry F.slot_enumerate_next hT F.entry_enumerate_next ?_ (F.args_enumerate_next_1 _))))
  show wpAny _ _ (field (.ref e) 2 >>= _) _ _ _
  refine wpAny_bind (wpAny_field he rfl (x := .ref it) rfl (wpAny_bind (RZ.nextOf_tuple_end hh hit hl hx fun h' y k hy => ?_)))
  obtain ⟨o, ho, hc⟩ := hy
  exact wpAny_bind (wpAny_isInstance (T := "StopIteration") (b := true) ⟨o, ho, hc⟩ isSubtype_stop (wpAny_pure (hQ _ k)))
end
end EnT
namespace EnT
open PySem PySem.Spec L2
open PyProof.Rows hiding St
/-- the tuple at a, each item in a new pair -/
def IteT (K : PySem.W.Frag) (a : Addr) : It :=
  ⟨fun i H => ∃ (xs : List V) (x : V), SqT K H a xs ∧ xs[i]? = some x, fun i H v H' => ∃ T x, v = .ref T ∧ H T = none ∧ H' = upd H T (.tup [.int (i : Nat), x]) ∧ ∀ xs, SqT K H a xs → xs[i]? = some x, fun i H => ∃ xs : List V, SqT K H a xs ∧ xs.length ≤ i⟩
theorem turn_enT {P : Program} {w : World} {K : PySem.W.Frag} {elts : List Expr} {kk : Nat} {tpos : Pos} (a e it : Addr) :
    Turn P w K (.Tuple elts kk tpos) (IteT K a) [e, it] e (fun i h => (∃ old, IsEnum h e it ((i : Nat) : Int) old) ∧ h.IsTupleIter it a i ∧ e ≠ it) where
  mem := by simp
  obj := fun i h ⟨⟨_, he⟩, ⟨o, ho, _, hd⟩, _⟩ b hb => by
    rcases (show b = e ∨ b = it by simpa using hb) with rfl | rfl
    · exact ⟨_, he, fun v q => nomatch q⟩
    · exact ⟨o, ho, fun v q => by rw [hd] at q; cases q⟩
  keep := fun i h h' ⟨⟨old, he⟩, hi, hne⟩ k => ⟨⟨old, k e (by simp) _ he⟩, hi.at fun o q => k it (by simp) o q, hne⟩
  item := by
    intro X hP hw hK hc i pins s σ H E I hf ⟨⟨old, he⟩, hit, hne⟩ ⟨xs, x, hq, hx⟩
    subst hP hw hK
    obtain ⟨its, rv, p, hz⟩ := I.tuple hq
    obtain ⟨u, hu, ru⟩ := rv.get hx
    have hel : e < s.heap.objs.size := Heap.lt_size he
    have hil : it < s.heap.objs.size := by obtain ⟨_, q, _⟩ := hit; exact Heap.lt_size q
    refine next_item he hit (show s.heap.IsTuple a its.toArray from p) (x := u) (by simpa using hu) hne fun h' ho hit' hT hk => ?_
    refine ⟨_, rfl, wpAny_letOwnedTupleGo_enum (s := { s with heap := h', toks := s.toks + 1 }) ho fun h2 he' sb => ?_⟩
    have hT2 : h2.get? s.heap.objs.size = some { cls := .type "tuple", data := .seq #[.int i s.toks, u] } := (sb.2 _ (Nat.ne_of_gt hel)).trans hT
    have I1 : Inv X pins σ (upd H s.heap.objs.size (.tup [.int (i : Nat), x])) { s with heap := h2, toks := s.toks + 1 } :=
      I.turnedNew (ch := [e, it]) (fun b ob hb q => (sb.2 b (fun z => hb (by simp [z]))).trans (hk b ob (fun z => hb (by simp [z])) (fun z => hb (by simp [z])) q)) hf (Nat.le_refl _)
        ⟨by show 2 ≤ sizeLine; decide, [.int i s.toks, u], .cons ⟨_, rfl⟩ (.cons ru .nil), ⟨_, hT2, rfl, _, rfl⟩⟩
    refine ⟨.ref s.heap.objs.size, _, I1, rfl, ⟨_, x, rfl, I.hok.fresh (Nat.le_refl _), rfl, fun ys hy => by rw [I.tuple_inj hy hq]; exact hx⟩, ⟨⟨u, ?_⟩, hit'.at fun o q => (sb.2 it (Ne.symm hne)).trans q, hne⟩, fun b hb => ?_⟩
    · rw [show ((i + 1 : Nat) : Int) = (i : Int) + 1 by omega]; exact he'
    · have hb' : b < s.heap.objs.size := by
        rcases (show b = e ∨ b = it by simpa using hb) with z | z
        · rw [z]; exact hel
        · rw [z]; exact hil
      rw [upd_ne (Nat.ne_of_lt hb')]
      exact (hf b hb).1
  done := by
    intro X hP hw hK hc i pins s σ H E I hf ⟨⟨old, he⟩, hit, hne⟩ ⟨xs, hq, hx⟩
    subst hP hw hK
    obtain ⟨its, rv, p, hz⟩ := I.tuple hq
    obtain ⟨f0, f1, f2, f3, f4, f5⟩ := hf it (by simp)
    have hl := rv.length
    exact next_end (I.ok.hd hc) he hit (show s.heap.IsTuple a its.toArray from p) (by simp; omega) fun h' eb => ⟨rfl, I.turned (t' := s.toks) (fun b o hb q => eb b o hb q) f0 f1 f3 f4 f5⟩
  self := fun A i s Q E ⟨⟨_, he⟩, _⟩ h => wpAny_pyIter_enum he h
/-- enumerate over a list or a tuple -/
def iEnA (K : PySem.W.Frag) (ta : TA) : TI := fun σ H R => ta σ H fun vs H1 => ∃ a xs, vs = [.ref a] ∧ ((SqL K H1 a xs ∧ R (Ite K a) H1) ∨ (SqT K H1 a xs ∧ R (IteT K a) H1))
theorem pi_enA {X : Cx} {e : Expr} {ta : TA} {p pos tpos : Pos} {elts : List Expr} {kk : Nat} (hg : Gl X "enumerate") (hm : X.mg "enumerate" = none) (ha : PA X [e] ta) (hs : starEach [e] X.env = [(false, eval e X.env)]) :
    PI X (.Tuple elts kk tpos) (.Call (.Name "enumerate" p) [e] [] pos) (iEnA X.K ta) := by
  refine ⟨fun pins s σ H R I h => ?_⟩
  refine Call_ (ld_blt I hg hm boot_enumerate (PyProof.Rows.callWith_type1 (thn (ha.run pos pins s σ H _ I h) fun us s1 ⟨vs, H1, I1, r1, a, xs, ex, q1⟩ => ?_) hs rfl))
  subst ex
  cases r1 with
  | cons r rr =>
    cases rr
    cases r
    have fp : ∀ h' : Heap, (∀ b o, s1.heap.get? b = some o → h'.get? b = some o) → ∀ b ∈ [s1.heap.objs.size + 1, s1.heap.objs.size], s1.heap.objs.size ≤ b := fun h' hk b hb => by
      rcases (show b = s1.heap.objs.size + 1 ∨ b = s1.heap.objs.size by simpa using hb) with z | z
      · rw [z]; exact Nat.le_add_right _ _
      · rw [z]; exact Nat.le_refl _
    rcases q1 with ⟨hq, q⟩ | ⟨hq, q⟩
    · obtain ⟨its, rv, p', hz⟩ := I1.list hq
      refine call_enumerate_list p'.isList fun h' he hit hsz hk => wpAny_pyIter_enum he ?_
      have I2 : Inv X pins σ H1 { s1 with heap := h' } := I1.kept (t' := s1.toks) hk
      exact ⟨s1.heap.objs.size + 1, [s1.heap.objs.size + 1, s1.heap.objs.size], _, _, H1, rfl, I2, turn_enum a (s1.heap.objs.size + 1) s1.heap.objs.size, ⟨⟨.none, he⟩, hit, Nat.succ_ne_self _⟩, fun b hb => I1.fpOk (fp h' hk b hb) (I1.hok.fresh (fp h' hk b hb)), q⟩
    · obtain ⟨its, rv, p', hz⟩ := I1.tuple hq
      refine call_en (show s1.heap.IsTuple a its.toArray from p') fun h' he hit hk => wpAny_pyIter_enum he ?_
      have I2 : Inv X pins σ H1 { s1 with heap := h' } := I1.kept (t' := s1.toks) hk
      exact ⟨s1.heap.objs.size + 1, [s1.heap.objs.size + 1, s1.heap.objs.size], _, _, H1, rfl, I2, turn_enT a (s1.heap.objs.size + 1) s1.heap.objs.size, ⟨⟨.none, he⟩, hit, Nat.succ_ne_self _⟩, fun b hb => I1.fpOk (fp h' hk b hb) (I1.hok.fresh (fp h' hk b hb)), q⟩
end EnT
namespace Z
open PySem PySem.Spec L2
open PyProof.Rows hiding St

/-! ## walks -/
structure WalkD (K : PySem.W.Frag) (J : It) (ds : List D) (Gd : Hp → AS → Prop) : Prop where
  goes : ∀ i H O, i < ds.length → Gd H O → J.go i H
  stops : ∀ H O, Gd H O → J.stop ds.length H
  yields : ∀ i H O x H' d, ds[i]? = some d → Gd H O → (∀ b, O b → ∃ o, H b = some o) → J.yld i H x H' → Grow H H' ∧ Rep K H' O d x
  keeps : ∀ H O H' O', Gd H O → Keeps H O H' O' → Gd H' O'
abbrev MIt := Rho → Option (List D × Rho)
def tIt (X : Cx) (f : MIt) : TI := fun σ H Rr => ∃ c E ρ ds ρ', c.K = X.K ∧ R c E ρ σ H ∧ f ρ = some (ds, ρ') ∧
  ∀ J Gd H', PostN c E ρ σ H ρ' σ H' → WalkD c.K J ds Gd → Gd H' (OE ρ' σ E) → Rr J H'
def signs (s : Str) : List D := s.cps.toList.map fun c => .str ⟨#[c]⟩
def iSeq (f : ME) : MIt := fun ρ => (f ρ).bind fun r => match r.1.d with
  | .list ds => some (ds, r.2)
  | .tuple ds => some (ds, r.2)
  | .str s => some (signs s, r.2)
  | _ => none
def in62 (i : Int) : Bool := decide (i.natAbs < 4611686018427387904)
def upTo (lo : Int) (n : Nat) : List D := (List.range n).map fun (i : Nat) => .int (lo + i)
def downFrom (hi : Int) (n : Nat) : List D := (List.range n).map fun (i : Nat) => .int (hi + i * (-1))
def rngD : List D → Option (List D)
  | [.int j] => if in62 j then some (upTo 0 j.toNat) else none
  | [.int i, .int j] => if in62 i && in62 j then some (upTo i (j - i).toNat) else none
  | [.int i, .int j, .int c] => if in62 i && in62 j && decide (c = -1) then some (downFrom i (i - j).toNat) else none
  | _ => none
def enumD (ds : List D) : List D := ds.mapIdx fun i d => .tuple [.int i, d]
def enuD : List D → Option (List D)
  | [.list ds] => some (enumD ds)
  | [.tuple ds] => some (enumD ds)
  | _ => none
def zipD : List D → List D → List D
  | x :: xs, y :: ys => .tuple [x, y] :: zipD xs ys
  | _, _ => []
def zpD : List D → Option (List D)
  | [.list ds, .list es] => some (zipD ds es)
  | [.tuple ds, .tuple es] => some (zipD ds es)
  | _ => none
/-- a walk of what a built-in makes of its arguments -/
def iFn (fi : List D → Option (List D)) (fs : MOs) : MIt := fun ρ => (fs ρ).bind fun r => (tvs r.1).bind fun xs => (fi xs).bind fun ds => some (ds, r.2)

section
variable {K : PySem.W.Frag} {a b : Addr} {ds es : List D}
theorem wd_list : WalkD K (Itl K a) ds (fun H O => ∃ vs, LA K H O a vs ∧ Reps K H O ds vs) :=
  ⟨fun i H O hi ⟨vs, l, r⟩ => ⟨vs, vs[i]'(by rw [← r.length]; exact hi), l.sq, List.getElem?_eq_getElem _⟩,
   fun H O ⟨vs, l, r⟩ => ⟨vs, l.sq, by rw [r.length]; exact Nat.le_refl _⟩,
   fun i H O x H' d hd ⟨vs, l, r⟩ _ y => by
    obtain ⟨e, y⟩ := y
    subst e
    obtain ⟨v, h1, h2⟩ := r.get hd
    have := y vs l.sq
    rw [h1] at this; cases this
    exact ⟨Grow.rfl, h2⟩,
   fun H O H' O' ⟨vs, l, r⟩ k => ⟨vs, l.mono k, r.mono k⟩⟩
theorem wd_tup : WalkD K (Itt K a) ds (fun H O => ∃ vs, TAt K H O a vs ∧ Reps K H O ds vs) :=
  ⟨fun i H O hi ⟨vs, l, r⟩ => ⟨vs, vs[i]'(by rw [← r.length]; exact hi), l.sq, List.getElem?_eq_getElem _⟩,
   fun H O ⟨vs, l, r⟩ => ⟨vs, l.sq, by rw [r.length]; exact Nat.le_refl _⟩,
   fun i H O x H' d hd ⟨vs, l, r⟩ _ y => by
    obtain ⟨e, y⟩ := y
    subst e
    obtain ⟨v, h1, h2⟩ := r.get hd
    have := y vs l.sq
    rw [h1] at this; cases this
    exact ⟨Grow.rfl, h2⟩,
   fun H O H' O' ⟨vs, l, r⟩ k => ⟨vs, l.mono k, r.mono k⟩⟩
theorem wd_str {z : Str} (hz : PyData.strOk z = true) : WalkD K (Its z) (signs z) (fun _ _ => True) :=
  ⟨fun i H O hi _ => by show i < z.cps.size; simpa [signs] using hi, fun H O _ => by show z.cps.size ≤ (signs z).length; simp [signs],
   fun i H O x H' d hd _ _ y => by
    obtain ⟨e, c, h1, h2⟩ := y
    subst e
    have hc : z.cps.toList[i]? = some c := by rw [Array.getElem?_toList]; exact h1
    have e2 : (signs z)[i]? = some (.str ⟨#[c]⟩) := by unfold signs; rw [List.getElem?_map, hc]; rfl
    rw [hd] at e2; cases e2
    subst h2
    exact ⟨Grow.rfl, .str _ (strOk_one hz (List.mem_of_getElem? hc))⟩,
   fun _ _ _ _ _ _ => True.intro⟩
theorem wd_range {lo : Int} {n : Nat} : WalkD K (Itr lo n) (upTo lo n) (fun _ _ => True) :=
  ⟨fun i H O hi _ => by show i < n; simpa [upTo] using hi, fun H O _ => by show n ≤ (upTo lo n).length; simp [upTo],
   fun i H O x H' d hd _ _ y => by
    obtain ⟨e, h2⟩ := y
    subst e; subst h2
    have hi : i < n := by have := (List.getElem?_eq_some_iff.mp hd).1; simpa [upTo] using this
    have e2 : (upTo lo n)[i]? = some (.int (lo + i)) := by unfold upTo; rw [List.getElem?_map, List.getElem?_range hi]; rfl
    rw [hd] at e2; cases e2
    exact ⟨Grow.rfl, .int _⟩,
   fun _ _ _ _ _ _ => True.intro⟩
theorem wd_down {hi : Int} {n : Nat} : WalkD K (Itc hi (-1) n) (downFrom hi n) (fun _ _ => True) :=
  ⟨fun i H O h _ => by show i < n; simpa [downFrom] using h, fun H O _ => by show n ≤ (downFrom hi n).length; simp [downFrom],
   fun i H O x H' d hd _ _ y => by
    obtain ⟨e, h2⟩ := y
    subst e; subst h2
    have h : i < n := by have := (List.getElem?_eq_some_iff.mp hd).1; simpa [downFrom] using this
    have e2 : (downFrom hi n)[i]? = some (.int (hi + i * (-1))) := by unfold downFrom; rw [List.getElem?_map, List.getElem?_range h]; rfl
    rw [hd] at e2; cases e2
    exact ⟨Grow.rfl, .int _⟩,
   fun _ _ _ _ _ _ => True.intro⟩
theorem pair_res {H : Hp} {O : AS} {T : Addr} {d e : D} {x y : V} (hO : ∀ b, O b → ∃ o, H b = some o) (n : H T = none) (r1 : Rep K H O d x) (r2 : Rep K H O e y) : Grow H (upd H T (.tup [x, y])) ∧ Rep K (upd H T (.tup [x, y])) O (.tuple [d, e]) (.ref T) :=
  resTup (K := K) hO (.cons r1 (.cons r2 .nil)) n
theorem wd_enum : WalkD K (Ite K a) (enumD ds) (fun H O => ∃ vs, SqL K H a vs ∧ LA K H O a vs ∧ Reps K H O ds vs) :=
  ⟨fun i H O hi ⟨vs, l, _, r⟩ => ⟨vs, vs[i]'(by rw [← r.length]; simpa [enumD] using hi), l, List.getElem?_eq_getElem _⟩,
   fun H O ⟨vs, l, _, r⟩ => ⟨vs, l, by simp [enumD, ← r.length]⟩,
   fun i H O x H' d hd ⟨vs, l, _, r⟩ hO y => by
    obtain ⟨T, v, e1, e2, e3, y⟩ := y
    subst e1; subst e3
    have hq := y vs l
    have hi : i < ds.length := by have := (List.getElem?_eq_some_iff.mp hd).1; simpa [enumD] using this
    have h0 : ds[i]? = some ds[i] := List.getElem?_eq_getElem hi
    obtain ⟨v', h1, h2⟩ := r.get h0
    rw [hq] at h1; cases h1
    have e4 : (enumD ds)[i]? = some (.tuple [.int i, ds[i]]) := by unfold enumD; rw [List.getElem?_mapIdx, h0]; rfl
    rw [hd] at e4; cases e4
    exact pair_res hO e2 (.int _) h2,
   fun H O H' O' ⟨vs, _, l, r⟩ k => ⟨vs, (l.mono k).sq, l.mono k, r.mono k⟩⟩
theorem wd_enumT : WalkD K (EnT.IteT K a) (enumD ds) (fun H O => ∃ vs, SqT K H a vs ∧ TAt K H O a vs ∧ Reps K H O ds vs) :=
  ⟨fun i H O hi ⟨vs, l, _, r⟩ => ⟨vs, vs[i]'(by rw [← r.length]; simpa [enumD] using hi), l, List.getElem?_eq_getElem _⟩,
   fun H O ⟨vs, l, _, r⟩ => ⟨vs, l, by simp [enumD, ← r.length]⟩,
   fun i H O x H' d hd ⟨vs, l, _, r⟩ hO y => by
    obtain ⟨T, v, e1, e2, e3, y⟩ := y
    subst e1; subst e3
    have hq := y vs l
    have hi : i < ds.length := by have := (List.getElem?_eq_some_iff.mp hd).1; simpa [enumD] using this
    have h0 : ds[i]? = some ds[i] := List.getElem?_eq_getElem hi
    obtain ⟨v', h1, h2⟩ := r.get h0
    rw [hq] at h1; cases h1
    have e4 : (enumD ds)[i]? = some (.tuple [.int i, ds[i]]) := by unfold enumD; rw [List.getElem?_mapIdx, h0]; rfl
    rw [hd] at e4; cases e4
    exact pair_res hO e2 (.int _) h2,
   fun H O H' O' ⟨vs, _, l, r⟩ k => ⟨vs, (l.mono k).sq, l.mono k, r.mono k⟩⟩
theorem zipD_len : ∀ ds es : List D, (zipD ds es).length = min ds.length es.length
  | [], _ => by simp [zipD]
  | _ :: _, [] => by simp [zipD]
  | d :: ds, e :: es => by simp [zipD, zipD_len ds es]
theorem zipD_get : ∀ (ds es : List D) (i : Nat) (d : D), (zipD ds es)[i]? = some d → ∃ x y, ds[i]? = some x ∧ es[i]? = some y ∧ d = .tuple [x, y]
  | [], _, _, _, h => by simp [zipD] at h
  | _ :: _, [], _, _, h => by simp [zipD] at h
  | x :: ds, y :: es, 0, d, h => by
    have : PyData.tuple [x, y] = d := by simpa [zipD] using h
    exact ⟨x, y, rfl, rfl, this.symm⟩
  | _ :: ds, _ :: es, i + 1, d, h => by
    obtain ⟨x, y, h1, h2, h3⟩ := zipD_get ds es i d (by simpa [zipD] using h)
    exact ⟨x, y, by simpa using h1, by simpa using h2, h3⟩
theorem wd_zip : WalkD K (Itz K a b) (zipD ds es) (fun H O => ∃ vs ws, LA K H O a vs ∧ Reps K H O ds vs ∧ LA K H O b ws ∧ Reps K H O es ws) :=
  ⟨fun i H O hi ⟨vs, ws, l, r, m, s⟩ => by
    rw [zipD_len] at hi
    have h1 : i < vs.length := by rw [← r.length]; omega
    have h2 : i < ws.length := by rw [← s.length]; omega
    exact ⟨vs, ws, vs[i], ws[i], l.sq, m.sq, List.getElem?_eq_getElem _, List.getElem?_eq_getElem _⟩,
   fun H O ⟨vs, ws, l, r, m, s⟩ => ⟨vs, ws, l.sq, m.sq, by rw [zipD_len, ← r.length, ← s.length]; omega⟩,
   fun i H O x H' d hd ⟨vs, ws, l, r, m, s⟩ hO y => by
    obtain ⟨T, v, w, e1, e2, e3, y1, y2⟩ := y
    subst e1; subst e3
    obtain ⟨d1, d2, g1, g2, g3⟩ := zipD_get ds es i d hd
    obtain ⟨v', h1, h2⟩ := r.get g1
    obtain ⟨w', h3, h4⟩ := s.get g2
    rw [y1 vs l.sq] at h1; cases h1
    rw [y2 ws m.sq] at h3; cases h3
    subst g3
    exact pair_res hO e2 h2 h4,
   fun H O H' O' ⟨vs, ws, l, r, m, s⟩ k => ⟨vs, ws, l.mono k, r.mono k, m.mono k, s.mono k⟩⟩
theorem wd_zipT : WalkD K (RZ.ItzT K a b) (zipD ds es) (fun H O => ∃ vs ws, TAt K H O a vs ∧ Reps K H O ds vs ∧ TAt K H O b ws ∧ Reps K H O es ws) :=
  ⟨fun i H O hi ⟨vs, ws, l, r, m, s⟩ => by
    rw [zipD_len] at hi
    have h1 : i < vs.length := by rw [← r.length]; omega
    have h2 : i < ws.length := by rw [← s.length]; omega
    exact ⟨vs, ws, vs[i], ws[i], l.sq, m.sq, List.getElem?_eq_getElem _, List.getElem?_eq_getElem _⟩,
   fun H O ⟨vs, ws, l, r, m, s⟩ => ⟨vs, ws, l.sq, m.sq, by rw [zipD_len, ← r.length, ← s.length]; omega⟩,
   fun i H O x H' d hd ⟨vs, ws, l, r, m, s⟩ hO y => by
    obtain ⟨T, v, w, e1, e2, e3, y1, y2⟩ := y
    subst e1; subst e3
    obtain ⟨d1, d2, g1, g2, g3⟩ := zipD_get ds es i d hd
    obtain ⟨v', h1, h2⟩ := r.get g1
    obtain ⟨w', h3, h4⟩ := s.get g2
    rw [y1 vs l.sq] at h1; cases h1
    rw [y2 ws m.sq] at h3; cases h3
    subst g3
    exact pair_res hO e2 h2 h4,
   fun H O H' O' ⟨vs, ws, l, r, m, s⟩ k => ⟨vs, ws, l.mono k, r.mono k, m.mono k, s.mono k⟩⟩
end

section
variable {X : Cx} {tg e e2 : Expr} {f : ME} {fs : MOs} {p pos tpos : Pos} {elts : List Expr} {kk : Nat}
theorem zi_seq (h : PE X e (tE X f)) : PI X tg e (tIt X (iSeq f)) := by
  refine ⟨fun pins s σ H Rr I hq => ?_⟩
  obtain ⟨c, E, ρ, ds, ρ', hK, hR, hf, q⟩ := hq
  obtain ⟨⟨rv, ρ1⟩, h1, hf⟩ := bindS hf
  have rd : ∀ Q : VK, (∀ z H1, PostV c E ρ σ H ρ1 H1 rv.d z → Q z H1) → tE X f σ H Q := fun Q hQ => ⟨c, E, ρ, rv, ρ1, hK, hR, h1, fun z H1 P => hQ z H1 (P.pv hR)⟩
  split at hf
  · rename_i ws hd
    cases hf
    refine (pi_list h).run pins s σ H Rr I (rd _ fun z H1 P => ?_)
    rw [show rv.d = .list _ from hd] at P
    obtain ⟨s1, r1, p1⟩ := P
    cases p1 with
    | lst l r => exact ⟨_, rfl, ⟨_, by rw [← hK]; exact l.sq⟩, by rw [← hK]; exact q _ _ H1 ⟨s1, r1⟩ wd_list ⟨_, l, r⟩⟩
  · rename_i ws hd
    cases hf
    refine (pi_tup h).run pins s σ H Rr I (rd _ fun z H1 P => ?_)
    rw [show rv.d = .tuple _ from hd] at P
    obtain ⟨s1, r1, p1⟩ := P
    cases p1 with
    | tup l r => exact ⟨_, rfl, ⟨_, by rw [← hK]; exact l.sq⟩, by rw [← hK]; exact q _ _ H1 ⟨s1, r1⟩ wd_tup ⟨_, l, r⟩⟩
  · rename_i z0 hd
    cases hf
    refine (pi_str h).run pins s σ H Rr I (rd _ fun z H1 P => ?_)
    rw [show rv.d = .str z0 from hd] at P
    obtain ⟨s1, r1, p1⟩ := P
    cases p1 with
    | str _ hz => exact ⟨_, rfl, q _ _ H1 ⟨s1, r1⟩ (wd_str hz) True.intro⟩
  · cases hf
theorem in62_ok {i : Int} (h : in62 i = true) : -(2 ^ 62) ≤ i ∧ i < 2 ^ 62 := by
  have h : i.natAbs < 4611686018427387904 := of_decide_eq_true h
  constructor <;> omega
theorem it_ops {fi : List D → Option (List D)} {σ : L2.St} {H : Hp} {Rr : It → Hp → Prop} {T : List V → Hp → Prop} (hq : tIt X (iFn fi fs) σ H Rr)
    (h : ∀ (O : AS) (xs ds : List D) (zs : List V) (H1 : Hp), fi xs = some ds → Reps X.K H1 O xs zs → (∀ b, O b → ∃ o, H1 b = some o) → (∀ J Gd, WalkD X.K J ds Gd → Gd H1 O → Rr J H1) → T zs H1) : tOps X fs σ H T := by
  obtain ⟨c, E, ρ, ds, ρ', hK, hR, hf, q⟩ := hq
  obtain ⟨⟨ps, ρ1⟩, h1, hf⟩ := bindS hf
  obtain ⟨xs, h2, hf⟩ := bindS hf
  obtain ⟨ds', h3, hf⟩ := bindS hf
  cases hf
  rw [hK] at q
  exact ⟨c, E, ρ, ps, ρ1, hK, hR, h1, fun zs H1 P => h (OE ρ1 σ E) xs _ zs H1 h3 (by rw [← hK]; exact tvs_ok P.2.1 h2 P.2.2) (oe_there P.2.1) fun J Gd w g => q J Gd H1 ⟨P.1, P.2.1⟩ w g⟩
def rng1 : List D → Option (List D)
  | [.int j] => if in62 j then some (upTo 0 j.toNat) else none
  | _ => none
def rng2 : List D → Option (List D)
  | [.int i, .int j] => if in62 i && in62 j then some (upTo i (j - i).toNat) else none
  | _ => none
def rng3 : List D → Option (List D)
  | [.int i, .int j, .int c] => if in62 i && in62 j && decide (c = -1) then some (downFrom i (i - j).toNat) else none
  | _ => none
variable {a b c : Expr}
theorem zi_range1 (hg : Gl X "range") (hm : X.mg "range" = none) (ha : PA X [a] (tOps X fs)) (hs : starEach [a] X.env = [(false, eval a X.env)]) : PI X tg (.Call (.Name "range" p) [a] [] pos) (tIt X (iFn rng1 fs)) := by
  refine ⟨fun pins s σ H Rr I hq => (pi_range1 hg hm ha hs).run pins s σ H Rr I (it_ops hq fun O xs ds zs H1 hf ts hO q => ?_)⟩
  unfold rng1 at hf
  split at hf
  · split at hf
    · rename_i hc
      cases ts with
      | cons t ts =>
      cases ts; cases t; cases hf
      obtain ⟨h1, h2⟩ := in62_ok hc
      exact ⟨_, rfl, h1, h2, q _ _ wd_range True.intro⟩
    · cases hf
  · cases hf
theorem zi_range2 (hg : Gl X "range") (hm : X.mg "range" = none) (ha : PA X [a, b] (tOps X fs)) (hs : starEach [a, b] X.env = [(false, eval a X.env), (false, eval b X.env)]) (hs2 : starEach [b] X.env = [(false, eval b X.env)]) :
    PI X tg (.Call (.Name "range" p) [a, b] [] pos) (tIt X (iFn rng2 fs)) := by
  refine ⟨fun pins s σ H Rr I hq => (pi_range2 hg hm ha hs hs2).run pins s σ H Rr I (it_ops hq fun O xs ds zs H1 hf ts hO q => ?_)⟩
  unfold rng2 at hf
  split at hf
  · split at hf
    · rename_i hc
      rw [Bool.and_eq_true] at hc
      cases ts with
      | cons t ts =>
      cases ts with
      | cons t2 ts =>
      cases ts; cases t; cases t2; cases hf
      obtain ⟨h1, h2⟩ := in62_ok hc.1
      obtain ⟨h3, h4⟩ := in62_ok hc.2
      exact ⟨_, _, rfl, ⟨h1, h2, h3, h4⟩, q _ _ wd_range True.intro⟩
    · cases hf
  · cases hf
theorem zi_range3 (hg : Gl X "range") (hm : X.mg "range" = none) (ha : PA X [a, b, c] (tOps X fs)) (hs : starEach [a, b, c] X.env = (false, eval a X.env) :: starEach [b, c] X.env) (hpl : (backTo pos (starEach [b, c] X.env)).any (·.1) = false) :
    PI X tg (.Call (.Name "range" p) [a, b, c] [] pos) (tIt X (iFn rng3 fs)) := by
  refine ⟨fun pins s σ H Rr I hq => (pi_range3 hg hm ha hs hpl).run pins s σ H Rr I (it_ops hq fun O xs ds zs H1 hf ts hO q => ?_)⟩
  unfold rng3 at hf
  split at hf
  · split at hf
    · rename_i hc
      simp only [Bool.and_eq_true, decide_eq_true_eq] at hc
      obtain ⟨⟨c1, c2⟩, c3⟩ := hc
      subst c3
      cases ts with
      | cons t ts =>
      cases ts with
      | cons t2 ts =>
      cases ts with
      | cons t3 ts =>
      cases ts; cases t; cases t2; cases t3; cases hf
      obtain ⟨h1, h2⟩ := in62_ok c1
      obtain ⟨h3, h4⟩ := in62_ok c2
      exact ⟨_, _, _, _, rfl, RgC.neg h1 h2 h3 h4, q _ _ wd_down True.intro⟩
    · cases hf
  · cases hf
theorem zi_enum (hg : Gl X "enumerate") (hm : X.mg "enumerate" = none) (ha : PA X [e] (tOps X fs)) (hs : starEach [e] X.env = [(false, eval e X.env)]) :
    PI X (.Tuple elts kk tpos) (.Call (.Name "enumerate" p) [e] [] pos) (tIt X (iFn enuD fs)) := by
  refine ⟨fun pins s σ H Rr I hq => (EnT.pi_enA hg hm ha hs).run pins s σ H Rr I (it_ops hq fun O xs ds zs H1 hf ts hO q => ?_)⟩
  unfold enuD at hf
  split at hf
  · cases hf
    cases ts with
    | cons t ts =>
    cases ts
    cases t with
    | lst l r => exact ⟨_, _, rfl, .inl ⟨l.sq, q _ _ wd_enum ⟨_, l.sq, l, r⟩⟩⟩
  · cases hf
    cases ts with
    | cons t ts =>
    cases ts
    cases t with
    | tup l r => exact ⟨_, _, rfl, .inr ⟨l.sq, q _ _ wd_enumT ⟨_, l.sq, l, r⟩⟩⟩
  · cases hf
theorem zi_zip (hg : Gl X "zip") (hm : X.mg "zip" = none) (ha : PA X [e, e2] (tOps X fs)) (hs : starEach [e, e2] X.env = (false, eval e X.env) :: starEach [e2] X.env) (hpl : (backTo pos (starEach [e2] X.env)).any (·.1) = false) :
    PI X (.Tuple elts kk tpos) (.Call (.Name "zip" p) [e, e2] [] pos) (tIt X (iFn zpD fs)) := by
  refine ⟨fun pins s σ H Rr I hq => (RZ.pi_zipA hg hm ha hs hpl).run pins s σ H Rr I (it_ops hq fun O xs ds zs H1 hf ts hO q => ?_)⟩
  unfold zpD at hf
  split at hf
  · cases hf
    cases ts with
    | cons t ts =>
    cases ts with
    | cons t2 ts =>
    cases ts
    cases t with
    | lst l r =>
    cases t2 with
    | lst l2 r2 => exact ⟨_, _, _, _, rfl, .inl ⟨l.sq, l2.sq, q _ _ wd_zip ⟨_, _, l, r, l2, r2⟩⟩⟩
  · cases hf
    cases ts with
    | cons t ts =>
    cases ts with
    | cons t2 ts =>
    cases ts
    cases t with
    | tup l r =>
    cases t2 with
    | tup l2 r2 => exact ⟨_, _, _, _, rfl, .inr ⟨l.sq, l2.sq, q _ _ wd_zipT ⟨_, _, l, r, l2, r2⟩⟩⟩
  · cases hf
end

/-! ## for -/
def forL (g : SG) (b : SS) : List D → SS
  | [] => fun ρ => some (.nx, ρ)
  | d :: ds => fun ρ => (g d ρ).bind fun ρ1 => (b ρ1).bind fun s => match s.1 with
    | .nx => forL g b ds s.2
    | .ct => forL g b ds s.2
    | .bk => some (.nx, s.2)
    | .rt v => some (.rt v, s.2)
def sFor (fi : MIt) (g : SG) (b : SS) : SS := fun ρ => (fi ρ).bind fun r => forL g b r.1 r.2
theorem zs_for {X : Cx} {pr tv : List Nat} {fi : MIt} {g : SG} {s : SS} {tg iter : Expr} {body : List Stmt} {pos : Pos} (hpo : PassesOwn (model X.prog X.w) X.A X.env X.xe) (hc : X.calm = true) (hi : PI X tg iter (tIt X fi)) (hg : PG X tg (tG X pr tv g)) (hb : PSs X body (tS X pr s)) (hfs : ∀ x, foldedSetIterable iter X.env x = pure x) :
    PS X (.For tg iter body [] pos) (tS X pr (sFor fi g s)) := by
  refine ⟨fun pins s0 σ H Dd I hq => (ps_for hpo hc hi hg hb hfs).run pins s0 σ H Dd I ?_⟩
  obtain ⟨c, E, ρ, out, ρ', hK, hp, hR, hf, q⟩ := hq
  obtain ⟨⟨ds, ρ1⟩, h1, hf⟩ := bindS hf
  refine ⟨c, E, ρ, ds, ρ1, hK, hR, h1, fun J Gd H1 P1 wk g1 => ?_⟩
  refine ⟨fun i m σ2 H2 => m = ds.length - i ∧ i ≤ ds.length ∧ ∃ ρ2, R c E ρ2 σ2 H2 ∧ forL g s (ds.drop i) ρ2 = some (out, ρ') ∧ EndS c E ρ2 σ2 H2 ρ' out Dd ∧ Gd H2 (OE ρ2 σ2 E), ⟨ds.length, by simp, Nat.zero_le _, ρ1, P1.2, hf, EndS.from P1 q, g1⟩, ?_⟩
  rintro i m σ2 H2 ⟨rfl, hi, ρ2, R2, f2, q2, g2⟩
  by_cases hlt : i < ds.length
  · have ed : ds[i]? = some ds[i] := List.getElem?_eq_getElem hlt
    rw [List.drop_eq_getElem_cons hlt] at f2
    obtain ⟨ρ3, h3, f2⟩ := bindS f2
    obtain ⟨⟨o4, ρ4⟩, h4, f2⟩ := bindS f2
    refine .inr ⟨wk.goes i H2 _ hlt g2, fun σ' H' => ∃ ρ2, R c E ρ2 σ' H' ∧ forL g s (ds.drop (i + 1)) ρ2 = some (out, ρ') ∧ EndS c E ρ2 σ' H' ρ' out Dd ∧ Gd H' (OE ρ2 σ' E), fun σ' H' h => ⟨ds.length - (i + 1), by omega, rfl, hlt, h⟩, fun x H3 y => ?_⟩
    obtain ⟨gr, rp⟩ := wk.yields i H2 _ x H3 _ ed g2 (oe_there R2) y
    have P3 : PostN c E ρ2 σ2 H2 ρ2 σ2 H3 := ⟨gr.stp, R2.grow gr⟩
    refine ⟨c, E, ρ2, ds[i], ρ3, hK, hp, R2.grow gr, rp, h3, fun σ4 H4 P4 _ => ⟨c, E, ρ3, o4, ρ4, hK, hp, P4.2, h4, ?_⟩⟩
    have P5 := P3.trans P4
    cases o4 with
    | nx => exact fun σ' H' p => ⟨ρ4, p.2, f2, EndS.from (P5.trans p) q2, wk.keeps _ _ _ _ g2 (P5.trans p).1.keeps⟩
    | ct => exact fun σ' H' p => ⟨ρ4, p.2, f2, EndS.from (P5.trans p) q2, wk.keeps _ _ _ _ g2 (P5.trans p).1.keeps⟩
    | bk => cases f2; exact fun σ' H' p => q2 σ' H' (P5.trans p)
    | rt rv => cases f2; exact fun z σ' H' p => q2 z σ' H' (PostR.from P5 p)
  · have e : i = ds.length := by omega
    subst e
    rw [List.drop_length] at f2
    cases f2
    exact .inl ⟨wk.stops H2 _ g2, q2 σ2 H2 ⟨Stp.rfl, R2⟩⟩
end Z
namespace Z
open PySem PySem.Spec L2
open PyProof.Rows hiding St

/-! ## comprehensions -/
def wipeR (ρ : Rho) : List Nat → Rho
  | [] => ρ
  | v :: vs => (wipeR ρ vs).set v none
/-- the block's own slots as they were ahead of it -/
def backR (ρ0 ρ : Rho) : List Nat → Rho
  | [] => ρ
  | v :: vs => (backR ρ0 ρ vs).set v ((ρ0[v]?).getD none)
def lcL (vs : List Nat) (g : SG) (t : MB) (f : ME) : List D → Rho → List D → Option (List D × Rho)
  | [], ρ, acc => some (acc, ρ)
  | d :: ds, ρ, acc => (g d ρ).bind fun ρ1 => (t ρ1).bind fun b => if b.1 then (f b.2).bind fun r => if decide (acc.length < 16777216) then lcL vs g t f ds (wipeR r.2 vs) (acc ++ [r.1.d]) else none
    else lcL vs g t f ds (wipeR b.2 vs) acc
def eLc (vs : List Nat) (fi : MIt) (g : SG) (t : MB) (f : ME) : ME := fun ρ => (fi ρ).bind fun r =>
  if vs.any (ownAt r.2) then none else (lcL vs g t f r.1 (wipeR r.2 vs) []).bind fun s => some (.o (.list s.1), backR r.2 s.2 vs)
def bYes : MB := fun ρ => some (true, ρ)

section
variable {c : Cn} {E : AS} {ρ ρ0 : Rho} {σ : L2.St} {H : Hp}
theorem wipeR_len : ∀ (ρ : Rho) (vs : List Nat), (wipeR ρ vs).length = ρ.length
  | _, [] => rfl
  | ρ, v :: vs => by unfold wipeR; rw [List.length_set, wipeR_len ρ vs]
theorem wipeR_out : ∀ {vs : List Nat} {i : Nat}, i ∉ vs → (wipeR ρ vs)[i]? = ρ[i]?
  | [], _, _ => rfl
  | v :: vs, i, h => by
    rw [List.mem_cons, not_or] at h
    unfold wipeR
    rw [List.getElem?_set_ne (Ne.symm h.1), wipeR_out h.2]
theorem wipeR_in : ∀ {vs : List Nat} {i : Nat} {r : RV}, i ∈ vs → (wipeR ρ vs)[i]? = some (some r) → False
  | [], _, _, h, _ => by cases h
  | v :: vs, i, r, h, q => by
    unfold wipeR at q
    rcases get_set q with ⟨_, q, _⟩ | ⟨h1, q⟩
    · cases q
    · rcases List.mem_cons.mp h with e | h
      · exact h1 e
      · exact wipeR_in h q
theorem wipe_out : ∀ {vs : List Nat} {i : Nat}, i ∉ vs → (wipe σ vs)[i]? = σ[i]?
  | [], _, _ => rfl
  | v :: vs, i, h => by
    rw [List.mem_cons, not_or] at h
    unfold wipe
    rw [List.getElem?_set_ne (Ne.symm h.1), wipe_out h.2]
theorem backR_len : ∀ (vs : List Nat), (backR ρ0 ρ vs).length = ρ.length
  | [] => rfl
  | v :: vs => by unfold backR; rw [List.length_set, backR_len vs]
theorem backR_out : ∀ {vs : List Nat} {i : Nat}, i ∉ vs → (backR ρ0 ρ vs)[i]? = ρ[i]?
  | [], _, _ => rfl
  | v :: vs, i, h => by
    rw [List.mem_cons, not_or] at h
    unfold backR
    rw [List.getElem?_set_ne (Ne.symm h.1), backR_out h.2]
theorem backR_in : ∀ {vs : List Nat} {i : Nat} {r : RV}, i ∈ vs → (backR ρ0 ρ vs)[i]? = some (some r) → ρ0[i]? = some (some r)
  | [], _, _, h, _ => by cases h
  | v :: vs, i, r, h, q => by
    unfold backR at q
    rcases get_set q with ⟨e, q, _⟩ | ⟨h1, q⟩
    · subst e
      cases w : ρ0[i]? with
      | none => rw [w] at q; cases q
      | some x => rw [w] at q; exact congrArg some q
    · rcases List.mem_cons.mp h with e | h
      · exact absurd e h1
      · exact backR_in h q
theorem wipe_same {σ' : L2.St} {vs : List Nat} (h : Same' vs σ σ') : wipe σ' vs = wipe σ vs := by
  have gen : ∀ us : List Nat, (∀ j, j ∉ vs → σ'[j]? = σ[j]?) → (∀ j ∈ vs, j ∈ us ∨ σ'[j]? = σ[j]?) → wipe σ' us = wipe σ us := by
    intro us ho hv
    apply List.ext_getElem?
    intro i
    by_cases hi : i ∈ us
    · have nn : ∀ (τ : L2.St), (wipe τ us)[i]? = none ∨ (wipe τ us)[i]? = some none := fun τ => by
        cases q : (wipe τ us)[i]? with
        | none => exact .inl rfl
        | some x =>
          cases x with
          | none => exact .inr rfl
          | some v => exact absurd hi (wipe_some q).2
      have l1 : (wipe σ' us).length = (wipe σ us).length := by rw [wipe_length, wipe_length]; exact h.1
      rcases nn σ' with e | e <;> rcases nn σ with e' | e'
      · rw [e, e']
      · have a := List.getElem?_eq_none_iff.mp e
        have b := (List.getElem?_eq_some_iff.mp e').1
        omega
      · have a := List.getElem?_eq_none_iff.mp e'
        have b := (List.getElem?_eq_some_iff.mp e).1
        omega
      · rw [e, e']
    · rw [wipe_out hi, wipe_out hi]
      by_cases hv' : i ∈ vs
      · exact (hv i hv').resolve_left hi
      · exact ho i hv'
  exact gen vs h.2 fun j hj => .inl hj
/-- slots are forgotten -/
theorem R.wipe {vs : List Nat} (r : R c E ρ σ H) (np : ∀ v ∈ vs, v ∉ c.pr) : R c E (wipeR ρ vs) (L2.wipe σ vs) H ∧ Stp ρ σ H (wipeR ρ vs) (L2.wipe σ vs) H := by
  have at1 : ∀ {i : Nat} {x : RV}, (wipeR ρ vs)[i]? = some (some x) → i ∉ vs ∧ ρ[i]? = some (some x) := fun {i x} q => by
    by_cases hi : i ∈ vs
    · exact (wipeR_in hi q).elim
    · rw [wipeR_out hi] at q; exact ⟨hi, q⟩
  have osub : ∀ b, OwnS (wipeR ρ vs) (L2.wipe σ vs) b → OwnS ρ σ b := fun b ⟨i, d, q1, q2⟩ => by
    obtain ⟨hi, q3⟩ := at1 q1
    exact ⟨i, d, q3, (wipe_some q2).1⟩
  have k : Keeps H (OE ρ σ E) H (OE (wipeR ρ vs) (L2.wipe σ vs) E) := fun b o h n => ⟨h, fun y => n (y.elim .inl fun y => .inr (osub b y))⟩
  refine ⟨⟨by rw [wipeR_len, wipe_length]; exact r.len, fun i d q => ?_, fun i d q => ?_, fun i j d e a q1 q2 g1 g2 => ?_, r.eal, r.al, fun i hi => ?_⟩, fun _ _ h _ => h, fun _ _ h => ⟨_, h⟩, fun b _ _ q => osub b q⟩
  · obtain ⟨hi, q1⟩ := at1 q
    obtain ⟨v, h1, h2⟩ := r.val i d q1
    exact ⟨v, by rw [wipe_out hi]; exact h1, h2.mono k⟩
  · obtain ⟨hi, q1⟩ := at1 q
    obtain ⟨a, h1, h2, h3⟩ := r.own i d q1
    exact ⟨a, by rw [wipe_out hi]; exact h1, h2.mono k (fun _ h => h), h3⟩
  · exact r.inj i j d e a (at1 q1).2 (at1 q2).2 (wipe_some g1).1 (wipe_some g2).1
  · rw [wipe_out fun h => np i h hi]; exact r.prt i hi
end

section
variable {X : Cx} {pr vs tv : List Nat} {fi : MIt} {g : SG} {t : MB} {f : ME}
/-- the context of a block -/
def Cn.blk (c : Cn) : Cn := ⟨c.K, fun _ => none, c.s0, []⟩
theorem R.blk {c : Cn} {E : AS} {ρ : Rho} {σ : L2.St} {H : Hp} (r : R c E ρ σ H) : R c.blk E ρ σ H :=
  ⟨r.len, r.val, fun i d q => let ⟨a, h1, h2, h3, _⟩ := r.own i d q; ⟨a, h1, h2, h3, .inl rfl⟩, r.inj, r.eal, (fun b o h => by cases h), fun i hi => by cases hi⟩
/-- out of a block -/
theorem R.unblk {c : Cn} {E E' : AS} {ρ0 ρ : Rho} {σ : L2.St} {H H' : Hp} {vs : List Nat} (r0 : R c E ρ0 σ H) (no : ∀ v ∈ vs, ownAt ρ0 v = false) (r : R c.blk E' ρ (L2.wipe σ vs) H') (s : Stp ρ0 σ H ρ (L2.wipe σ vs) H') (hE : ∀ b o, H b = some o → E' b → E b) :
    R c E' (backR ρ0 ρ vs) σ H' ∧ Stp ρ0 σ H (backR ρ0 ρ vs) σ H' ∧ OwnS (backR ρ0 ρ vs) σ = OwnS ρ (L2.wipe σ vs) := by
  have nown : ∀ v ∈ vs, ∀ d, ρ0[v]? ≠ some (some (.o d)) := fun v hv d q => by
    have := no v hv
    unfold ownAt at this
    rw [q] at this
    cases this
  have at1 : ∀ {i : Nat} {d : D}, (backR ρ0 ρ vs)[i]? = some (some (.o d)) → i ∉ vs ∧ ρ[i]? = some (some (.o d)) := fun {i d} q => by
    by_cases hi : i ∈ vs
    · exact (nown i hi d (backR_in hi q)).elim
    · rw [backR_out hi] at q; exact ⟨hi, q⟩
  have rlen : ρ.length = σ.length := by rw [r.len, wipe_length]
  have oS : OwnS (backR ρ0 ρ vs) σ = OwnS ρ (L2.wipe σ vs) := by
    funext b
    apply propext
    constructor
    · rintro ⟨i, d, q1, q2⟩
      obtain ⟨hi, q3⟩ := at1 q1
      exact ⟨i, d, q3, by rw [wipe_out hi]; exact q2⟩
    · rintro ⟨i, d, q1, q2⟩
      obtain ⟨q3, hi⟩ := wipe_some q2
      exact ⟨i, d, by rw [backR_out hi]; exact q1, q3⟩
  have oE : OE (backR ρ0 ρ vs) σ E' = OE ρ (L2.wipe σ vs) E' := by unfold OE; rw [oS]
  have k : Keeps H (OE ρ0 σ E) H' (OE (backR ρ0 ρ vs) σ E') := fun b o q n => ⟨s.keep b o q fun y => n (.inr y), fun y => by
    rcases y with y | y
    · exact n (.inl (hE b o q y))
    · rw [oS] at y; exact n (.inr (s.own b o q y))⟩
  refine ⟨⟨by rw [backR_len]; exact rlen, fun i d q => ?_, fun i d q => ?_, fun i j d e a q1 q2 g1 g2 => ?_, r.eal, fun b o q => let ⟨o', q'⟩ := r0.al b o q; s.all b o' q', r0.prt⟩, ⟨s.keep, s.all, fun b o q y => by rw [oS] at y; exact s.own b o q y⟩, oS⟩
  · by_cases hi : i ∈ vs
    · obtain ⟨v, h1, h2⟩ := r0.val i d (backR_in hi q)
      exact ⟨v, h1, h2.mono k⟩
    · rw [backR_out hi] at q
      obtain ⟨v, h1, h2⟩ := r.val i d q
      rw [wipe_out hi] at h1
      exact ⟨v, h1, by rw [oE]; exact h2⟩
  · obtain ⟨hi, q1⟩ := at1 q
    obtain ⟨a, h1, h2, h3, _⟩ := r.own i d q1
    rw [wipe_out hi] at h1
    refine ⟨a, h1, by rw [oE]; exact h2, h3, ?_⟩
    cases w : H a with
    | none =>
      cases w2 : c.H0 a with
      | none => exact .inl rfl
      | some u => obtain ⟨u', h'⟩ := r0.al a u w2; rw [w] at h'; cases h'
    | some u =>
      obtain ⟨j, e, y1, y2⟩ := s.own a u w ⟨i, d, q1, by rw [wipe_out hi]; exact h1⟩
      obtain ⟨a', y3, _, _, y4⟩ := r0.own j e y1
      rw [y2] at y3
      cases y3
      exact y4
  · obtain ⟨hi, q3⟩ := at1 q1
    obtain ⟨hj, q4⟩ := at1 q2
    exact r.inj i j d e a q3 q4 (by rw [wipe_out hi]; exact g1) (by rw [wipe_out hj]; exact g2)
theorem OwnS_wipe {ρ : Rho} {σ : L2.St} {vs : List Nat} : ∀ b, OwnS (wipeR ρ vs) (L2.wipe σ vs) b → OwnS ρ σ b := fun b ⟨i, d, q1, q2⟩ => by
  by_cases hi : i ∈ vs
  · exact (wipeR_in hi q1).elim
  · rw [wipeR_out hi] at q1
    exact ⟨i, d, q1, (wipe_some q2).1⟩
theorem lc_read {σ : L2.St} {H : Hp} {Q : VK} (hq : tE X (eLc vs fi g t f) σ H Q) (htv : ∀ i ∈ tv, i ∈ vs) : tLc (tIt X fi) (tG X [] tv g) (tT X t) (tE X f) vs σ H Q := by
  obtain ⟨c, E, ρ, rv, ρ', hK, hR, hf, q⟩ := hq
  obtain ⟨⟨ds, ρ1⟩, h1, hf⟩ := bindS hf
  split at hf
  · cases hf
  · rename_i no
    have no : ∀ v ∈ vs, ownAt ρ1 v = false := by
      intro v hv
      cases w : ownAt ρ1 v with
      | false => rfl
      | true => exact absurd (List.any_eq_true.mpr ⟨v, hv, w⟩) no
    obtain ⟨⟨out, ρ2⟩, h2, hf⟩ := bindS hf
    cases hf
    refine ⟨c, E, ρ, ds, ρ1, hK, hR, h1, fun J Gd H1 P1 wk g1 D nD => ?_⟩
    obtain ⟨s1, R1⟩ := P1
    have nE : ¬ E D := fun y => by obtain ⟨o, e⟩ := R1.eal D y; rw [nD] at e; cases e
    -- the start
    have Ra : R c.blk (Add E D) ρ1 σ (upd H1 D (.lst [])) := (R1.add (o := .lst []) nD (Grow.upd nD) upd_same).blk
    obtain ⟨Rb, sb⟩ := Ra.wipe (vs := vs) (fun v _ h => by cases h)
    have g2 : Gd (upd H1 D (.lst [])) (OE (wipeR ρ1 vs) (L2.wipe σ vs) (Add E D)) := wk.keeps _ _ _ _ g1 fun b o e n => ⟨by rw [upd_ne (ne_of_none e nD)]; exact e, fun y => by
      rcases y with (y | y) | y
      · exact n (.inl y)
      · rw [y, nD] at e; cases e
      · exact n (.inr (OwnS_wipe b y))⟩
    have s0 : Stp ρ1 σ H1 (wipeR ρ1 vs) (L2.wipe σ vs) (upd H1 D (.lst [])) := (Grow.upd nD).stp.trans sb
    refine ⟨fun i m H2 => m = ds.length - i ∧ i ≤ ds.length ∧ ∃ ρ3 accD accV, R c.blk (Add E D) ρ3 (L2.wipe σ vs) H2 ∧ Stp ρ1 σ H1 ρ3 (L2.wipe σ vs) H2 ∧ lcL vs g t f (ds.drop i) ρ3 accD = some (out, ρ2) ∧ H2 D = some (.lst accV) ∧
      Reps c.K H2 (OE ρ3 (L2.wipe σ vs) (Add E D)) accD accV ∧ Gd H2 (OE ρ3 (L2.wipe σ vs) (Add E D)), ⟨ds.length, by simp, Nat.zero_le _, wipeR ρ1 vs, [], [], Rb, s0, h2, upd_same, .nil, g2⟩, ?_⟩
    rintro i m H2 ⟨rfl, hi, ρ3, accD, accV, R3, s3, f3, eD, rA, g3⟩
    by_cases hlt : i < ds.length
    · have ed : ds[i]? = some ds[i] := List.getElem?_eq_getElem hlt
      rw [List.drop_eq_getElem_cons hlt] at f3
      obtain ⟨ρ4, h4, f3⟩ := bindS f3
      obtain ⟨⟨b5, ρ5⟩, h5, f3⟩ := bindS f3
      refine .inr ⟨wk.goes i H2 _ hlt g3, fun H' => ∃ ρ3 accD accV, R c.blk (Add E D) ρ3 (L2.wipe σ vs) H' ∧ Stp ρ1 σ H1 ρ3 (L2.wipe σ vs) H' ∧ lcL vs g t f (ds.drop (i + 1)) ρ3 accD = some (out, ρ2) ∧ H' D = some (.lst accV) ∧
        Reps c.K H' (OE ρ3 (L2.wipe σ vs) (Add E D)) accD accV ∧ Gd H' (OE ρ3 (L2.wipe σ vs) (Add E D)), fun H' h => ⟨ds.length - (i + 1), by omega, rfl, hlt, h⟩, fun x H3 y => ?_⟩
      obtain ⟨gr, rp⟩ := wk.yields i H2 _ x H3 _ ed g3 (oe_there R3) y
      have P3 : PostN c.blk (Add E D) ρ3 (L2.wipe σ vs) H2 ρ3 (L2.wipe σ vs) H3 := ⟨gr.stp, R3.grow gr⟩
      refine ⟨c.blk, Add E D, ρ3, ds[i], ρ4, hK, rfl, P3.2, rp, h4, fun σ4 H4 P4 sm => ⟨wipe_same (vs := vs) ⟨by rw [sm.1, wipe_length], fun j hj => by rw [sm.2 j fun h => hj (htv j h), wipe_out hj]⟩, ?_⟩⟩
      have wE : L2.wipe σ4 vs = L2.wipe σ vs := wipe_same (vs := vs) ⟨by rw [sm.1, wipe_length], fun j hj => by rw [sm.2 j fun h => hj (htv j h), wipe_out hj]⟩
      refine ⟨c.blk, Add E D, ρ4, b5, ρ5, hK, P4.2, h5, fun H5 P5 => ?_⟩
      have Q5 : PostN c.blk (Add E D) ρ3 (L2.wipe σ vs) H2 ρ5 σ4 H5 := (P3.trans P4).trans P5
      have nOD : ∀ {ρx : Rho} {σx : L2.St} {Hx : Hp}, R c.blk (Add E D) ρx σx Hx → ¬ OwnS ρx σx D := fun r y => r.own_not y (.inr rfl)
      have next : ∀ {ρx : Rho} {H' : Hp} {ad : List PyData} {av : List V}, PostN c.blk (Add E D) ρ3 (L2.wipe σ vs) H2 ρx σ4 H' → lcL vs g t f (ds.drop (i + 1)) (wipeR ρx vs) ad = some (out, ρ2) → H' D = some (.lst av) → Reps c.K H' (OE ρx σ4 (Add E D)) ad av →
          ∃ ρ3 accD accV, R c.blk (Add E D) ρ3 (L2.wipe σ vs) H' ∧ Stp ρ1 σ H1 ρ3 (L2.wipe σ vs) H' ∧ lcL vs g t f (ds.drop (i + 1)) ρ3 accD = some (out, ρ2) ∧ H' D = some (.lst accV) ∧
            Reps c.K H' (OE ρ3 (L2.wipe σ vs) (Add E D)) accD accV ∧ Gd H' (OE ρ3 (L2.wipe σ vs) (Add E D)) := fun {ρx H' ad av} P ff eD' rA' => by
        obtain ⟨Rw, sw⟩ := P.2.wipe (vs := vs) (fun v _ h => by cases h)
        rw [wE] at Rw sw
        exact ⟨wipeR ρx vs, ad, av, Rw, s3.trans (P.1.trans sw), ff, eD', rA'.mono sw.keeps, wk.keeps _ _ _ _ g3 (P.1.trans sw).keeps⟩
      cases b5 with
      | false =>
        have f3 : lcL vs g t f (ds.drop (i + 1)) (wipeR ρ5 vs) accD = some (out, ρ2) := f3
        exact iteF (next Q5 f3 (Q5.1.keep D _ eD (nOD R3)) (rA.mono Q5.1.keeps))
      | true =>
        obtain ⟨⟨r6, ρ6⟩, h6, f3⟩ := bindS f3
        split at f3
        · rename_i hz
          refine iteT ⟨c.blk, Add E D, ρ5, r6, ρ6, hK, P5.2, h6, fun z H6 P6 => ?_⟩
          obtain ⟨s6, R6, v6⟩ := P6.pv P5.2
          have Q6 : PostN c.blk (Add E D) ρ3 (L2.wipe σ vs) H2 ρ6 σ4 H6 := Q5.trans ⟨s6, R6⟩
          have eD6 := Q6.1.keep D _ eD (nOD R3)
          have la : accD.length = accV.length := rA.length
          refine ⟨accV, eD6, by rw [sizeLine_eq, ← la]; exact of_decide_eq_true hz, ?_⟩
          -- the list at D grows: nobody else reads it
          have nSD := nOD R6
          have kD : Keeps H6 (OE ρ6 σ4 (Add E D)) (upd H6 D (.lst (accV ++ [z]))) (OE ρ6 σ4 (Add E D)) := fun b o e n => ⟨by rw [upd_ne (fun e' => n (.inl (.inr e')))]; exact e, n⟩
          have R7 : R c.blk (Add E D) ρ6 σ4 (upd H6 D (.lst (accV ++ [z]))) := by
            have thr : ∀ b o, H6 b = some o → ∃ o', (upd H6 D (.lst (accV ++ [z]))) b = some o' := fun b o e => by
              by_cases hb : b = D
              · rw [hb]; exact ⟨_, upd_same⟩
              · exact ⟨o, by rw [upd_ne hb]; exact e⟩
            exact ⟨R6.len, fun j d w => let ⟨v, y1, y2⟩ := R6.val j d w; ⟨v, y1, y2.mono kD⟩, fun j d w => by
              obtain ⟨a, y1, y2, y3, y4⟩ := R6.own j d w
              exact ⟨a, y1, y2.mono kD (fun o e => by rw [upd_ne (fun e' => y3 (.inr e'))]; exact e), y3, y4⟩, R6.inj, fun b y => let ⟨o, e⟩ := R6.eal b y; thr b o e, (fun b o y => by cases y), R6.prt⟩
          have s7 : Stp ρ6 σ4 H6 ρ6 σ4 (upd H6 D (.lst (accV ++ [z]))) → True := fun _ => True.intro
          obtain ⟨Rw, sw⟩ := R7.wipe (vs := vs) (fun v _ h => by cases h)
          rw [wE] at Rw sw
          have st : Stp ρ1 σ H1 (wipeR ρ6 vs) (L2.wipe σ vs) (upd H6 D (.lst (accV ++ [z]))) := by
            have a1 := s3.trans Q6.1
            refine ⟨fun b o e n => ?_, fun b o e => ?_, fun b o e y => a1.own b o e (by
              obtain ⟨j, d, w1, w2⟩ := y
              by_cases hj : j ∈ vs
              · exact (wipeR_in hj w1).elim
              · rw [wipeR_out hj] at w1
                rw [← wE] at w2
                exact ⟨j, d, w1, (wipe_some w2).1⟩)⟩
            · have hb : b ≠ D := ne_of_none e nD
              rw [upd_ne hb]; exact a1.keep b o e n
            · obtain ⟨o', e'⟩ := a1.all b o e
              by_cases hb : b = D
              · rw [hb]; exact ⟨_, upd_same⟩
              · exact ⟨o', by rw [upd_ne hb]; exact e'⟩
          exact ⟨wipeR ρ6 vs, accD ++ [r6.d], accV ++ [z], Rw, st, f3, upd_same, (Reps.append ((rA.mono Q6.1.keeps).mono kD) (.cons (v6.mono kD) .nil)).mono sw.keeps, wk.keeps _ _ _ _ (wk.keeps _ _ _ _ g3 (Q6.1.keeps)) (kD.trans sw.keeps)⟩
        · cases f3
    · have e : i = ds.length := by omega
      subst e
      rw [List.drop_length] at f3
      cases f3
      refine .inl ⟨wk.stops H2 _ g3, q _ H2 ⟨D, rfl, ?_, ?_, ?_, ?_⟩⟩
      all_goals obtain ⟨Ru, su, oS⟩ := R.unblk (c := c) (E := E) (E' := Add E D) R1 no R3 s3 (fun b o e y => y.elim id fun e' => by rw [e', nD] at e; cases e)
      · exact s1.trans su
      · cases w : H D with
        | none => rfl
        | some u => obtain ⟨u', e'⟩ := s1.all D u w; rw [nD] at e'; cases e'
      · exact Ru
      · refine ⟨accV, eD, rA.mono fun b o e n => ⟨e, fun y => n ?_⟩⟩
        rcases y with y | y
        · exact .inl y
        · rw [oS] at y; exact .inr y
end
end Z
namespace Z
open PySem PySem.Spec L2
open PyProof.Rows hiding St

/-! ## comprehensions of two clauses -/
def lcL2 (vs vs1 : List Nat) (g : SG) (t : MB) (fi1 : MIt) (g1 : SG) (t1 : MB) (f : ME) : List D → Rho → List D → Option (List D × Rho)
  | [], ρ, acc => some (acc, ρ)
  | d :: ds, ρ, acc => (g d ρ).bind fun ρ1 => (t ρ1).bind fun b => if b.1 then (fi1 b.2).bind fun r => (lcL vs1 g1 t1 f r.1 (wipeR r.2 vs1) acc).bind fun s => lcL2 vs vs1 g t fi1 g1 t1 f ds (wipeR s.2 vs) s.1
    else lcL2 vs vs1 g t fi1 g1 t1 f ds (wipeR b.2 vs) acc
def eLc2 (vs vs1 : List Nat) (fi : MIt) (g : SG) (t : MB) (fi1 : MIt) (g1 : SG) (t1 : MB) (f : ME) : ME := fun ρ => (fi ρ).bind fun r =>
  if vs.any (ownAt r.2) then none else (lcL2 vs vs1 g t fi1 g1 t1 f r.1 (wipeR r.2 vs) []).bind fun s => some (.o (.list s.1), backR r.2 s.2 vs)
theorem wipe_wipe {σ : L2.St} {vs vs1 : List Nat} (h : ∀ i ∈ vs1, i ∈ vs) : wipe (wipe σ vs1) vs = wipe σ vs :=
  wipe_same (vs := vs) ⟨wipe_length _ _, fun j hj => wipe_out fun h' => hj (h j h')⟩
section
variable {X : Cx} {pr vs tv : List Nat} {fi : MIt} {g : SG} {t : MB} {f : ME}
/-- the inner walk: what it adds to the list at D -/
theorem lc_in {c : Cn} {E : AS} {ρ1 : Rho} {σ σb : L2.St} {H1 : Hp} {D : Addr} {ds out : List PyData} {ρ2 : Rho} {J : It} {Gd : Hp → AS → Prop} {Nx : Hp → Prop} (hK : c.K = X.K) (hpr : c.pr = []) (hH0 : c.H0 = fun _ => none) (hE : E D) (nD : H1 D = none) (htv : ∀ i ∈ tv, i ∈ vs) (wk : WalkD c.K J ds Gd)
    {ρ0 : Rho} {H0 : Hp} {acc0 : List PyData} {accV0 : List V} (R0 : R c E ρ0 (L2.wipe σb vs) H0) (s0 : Stp ρ1 σ H1 ρ0 (L2.wipe σb vs) H0) (hf : lcL vs g t f ds ρ0 acc0 = some (out, ρ2)) (eD0 : H0 D = some (.lst accV0)) (rA0 : Reps c.K H0 (OE ρ0 (L2.wipe σb vs) E) acc0 accV0) (g0 : Gd H0 (OE ρ0 (L2.wipe σb vs) E))
    (fin : ∀ H' accV, R c E ρ2 (L2.wipe σb vs) H' → Stp ρ1 σ H1 ρ2 (L2.wipe σb vs) H' → Keeps H0 (OE ρ0 (L2.wipe σb vs) E) H' (OE ρ2 (L2.wipe σb vs) E) → H' D = some (.lst accV) → Reps c.K H' (OE ρ2 (L2.wipe σb vs) E) out accV → Nx H') :
    ∃ W1 : Nat → Nat → Hp → Prop, (∃ m, W1 0 m H0) ∧ ∀ j k H, W1 j k H → (J.stop j H ∧ Nx H) ∨ (J.go j H ∧ ∃ Nx1 : Hp → Prop, (∀ H', Nx1 H' → ∃ k', k' < k ∧ W1 (j + 1) k' H') ∧ ∀ x H', J.yld j H x H' → tG X [] tv g x (L2.wipe σb vs) H' fun σ3 H5 => L2.wipe σ3 vs = L2.wipe σb vs ∧ tT X t σ3 H5 fun b H6 =>
      if b = true then tE X f σ3 H6 fun y H7 => ∃ acc, H7 D = some (.lst acc) ∧ acc.length < sizeLine ∧ Nx1 (upd H7 D (.lst (acc ++ [y]))) else Nx1 H6) := by
  have ww : L2.wipe (L2.wipe σb vs) vs = L2.wipe σb vs := wipe_wipe fun _ h => h
  refine ⟨fun i m H2 => m = ds.length - i ∧ i ≤ ds.length ∧ ∃ ρ3 accD accV, R c E ρ3 (L2.wipe σb vs) H2 ∧ Stp ρ1 σ H1 ρ3 (L2.wipe σb vs) H2 ∧ Keeps H0 (OE ρ0 (L2.wipe σb vs) E) H2 (OE ρ3 (L2.wipe σb vs) E) ∧ lcL vs g t f (ds.drop i) ρ3 accD = some (out, ρ2) ∧ H2 D = some (.lst accV) ∧
    Reps c.K H2 (OE ρ3 (L2.wipe σb vs) E) accD accV ∧ Gd H2 (OE ρ3 (L2.wipe σb vs) E), ⟨ds.length, by simp, Nat.zero_le _, ρ0, acc0, accV0, R0, s0, fun b o h n => ⟨h, n⟩, hf, eD0, rA0, g0⟩, ?_⟩
  rintro i m H2 ⟨rfl, hi, ρ3, accD, accV, R3, s3, k3, f3, eD, rA, g3⟩
  by_cases hlt : i < ds.length
  · have ed : ds[i]? = some ds[i] := List.getElem?_eq_getElem hlt
    rw [List.drop_eq_getElem_cons hlt] at f3
    obtain ⟨ρ4, h4, f3⟩ := bindS f3
    obtain ⟨⟨b5, ρ5⟩, h5, f3⟩ := bindS f3
    refine .inr ⟨wk.goes i H2 _ hlt g3, fun H' => ∃ ρ3 accD accV, R c E ρ3 (L2.wipe σb vs) H' ∧ Stp ρ1 σ H1 ρ3 (L2.wipe σb vs) H' ∧ Keeps H0 (OE ρ0 (L2.wipe σb vs) E) H' (OE ρ3 (L2.wipe σb vs) E) ∧ lcL vs g t f (ds.drop (i + 1)) ρ3 accD = some (out, ρ2) ∧ H' D = some (.lst accV) ∧
      Reps c.K H' (OE ρ3 (L2.wipe σb vs) E) accD accV ∧ Gd H' (OE ρ3 (L2.wipe σb vs) E), fun H' h => ⟨ds.length - (i + 1), by omega, rfl, hlt, h⟩, fun x H3 y => ?_⟩
    obtain ⟨gr, rp⟩ := wk.yields i H2 _ x H3 _ ed g3 (oe_there R3) y
    have P3 : PostN c E ρ3 (L2.wipe σb vs) H2 ρ3 (L2.wipe σb vs) H3 := ⟨gr.stp, R3.grow gr⟩
    have wE : ∀ {σ4 : L2.St}, Same' tv (L2.wipe σb vs) σ4 → L2.wipe σ4 vs = L2.wipe σb vs := fun {σ4} sm => wipe_same (vs := vs) ⟨by rw [sm.1, wipe_length], fun j hj => by rw [sm.2 j fun h => hj (htv j h), wipe_out hj]⟩
    refine ⟨c, E, ρ3, ds[i], ρ4, hK, hpr, P3.2, rp, h4, fun σ4 H4 P4 sm => ⟨wE sm, ?_⟩⟩
    have wE := wE sm
    refine ⟨c, E, ρ4, b5, ρ5, hK, P4.2, h5, fun H5 P5 => ?_⟩
    have Q5 : PostN c E ρ3 (L2.wipe σb vs) H2 ρ5 σ4 H5 := (P3.trans P4).trans P5
    have nOD : ∀ {ρx : Rho} {σx : L2.St} {Hx : Hp}, R c E ρx σx Hx → ¬ OwnS ρx σx D := fun r y => r.own_not y hE
    have next : ∀ {ρx : Rho} {H' : Hp} {ad : List PyData} {av : List V}, PostN c E ρ3 (L2.wipe σb vs) H2 ρx σ4 H' → lcL vs g t f (ds.drop (i + 1)) (wipeR ρx vs) ad = some (out, ρ2) → H' D = some (.lst av) → Reps c.K H' (OE ρx σ4 E) ad av →
        ∃ ρ3 accD accV, R c E ρ3 (L2.wipe σb vs) H' ∧ Stp ρ1 σ H1 ρ3 (L2.wipe σb vs) H' ∧ Keeps H0 (OE ρ0 (L2.wipe σb vs) E) H' (OE ρ3 (L2.wipe σb vs) E) ∧ lcL vs g t f (ds.drop (i + 1)) ρ3 accD = some (out, ρ2) ∧ H' D = some (.lst accV) ∧
          Reps c.K H' (OE ρ3 (L2.wipe σb vs) E) accD accV ∧ Gd H' (OE ρ3 (L2.wipe σb vs) E) := fun {ρx H' ad av} P ff eD' rA' => by
      obtain ⟨Rw, sw⟩ := P.2.wipe (vs := vs) (fun v _ h => by rw [hpr] at h; cases h)
      rw [wE] at Rw sw
      exact ⟨wipeR ρx vs, ad, av, Rw, s3.trans (P.1.trans sw), k3.trans (P.1.trans sw).keeps, ff, eD', rA'.mono sw.keeps, wk.keeps _ _ _ _ g3 (P.1.trans sw).keeps⟩
    cases b5 with
    | false =>
      have f3 : lcL vs g t f (ds.drop (i + 1)) (wipeR ρ5 vs) accD = some (out, ρ2) := f3
      exact iteF (next Q5 f3 (Q5.1.keep D _ eD (nOD R3)) (rA.mono Q5.1.keeps))
    | true =>
      obtain ⟨⟨r6, ρ6⟩, h6, f3⟩ := bindS f3
      split at f3
      · rename_i hz
        refine iteT ⟨c, E, ρ5, r6, ρ6, hK, P5.2, h6, fun z H6 P6 => ?_⟩
        obtain ⟨s6, R6, v6⟩ := P6.pv P5.2
        have Q6 : PostN c E ρ3 (L2.wipe σb vs) H2 ρ6 σ4 H6 := Q5.trans ⟨s6, R6⟩
        have eD6 := Q6.1.keep D _ eD (nOD R3)
        have la : accD.length = accV.length := rA.length
        refine ⟨accV, eD6, by rw [sizeLine_eq, ← la]; exact of_decide_eq_true hz, ?_⟩
        have kD : Keeps H6 (OE ρ6 σ4 E) (upd H6 D (.lst (accV ++ [z]))) (OE ρ6 σ4 E) := fun b o e n => ⟨by rw [upd_ne (fun e' => n (.inl (by rw [e']; exact hE)))]; exact e, n⟩
        have R7 : R c E ρ6 σ4 (upd H6 D (.lst (accV ++ [z]))) := by
          have thr : ∀ b o, H6 b = some o → ∃ o', (upd H6 D (.lst (accV ++ [z]))) b = some o' := fun b o e => by
            by_cases hb : b = D
            · rw [hb]; exact ⟨_, upd_same⟩
            · exact ⟨o, by rw [upd_ne hb]; exact e⟩
          exact ⟨R6.len, fun j d w => let ⟨v, y1, y2⟩ := R6.val j d w; ⟨v, y1, y2.mono kD⟩, fun j d w => by
            obtain ⟨a, y1, y2, y3, y4⟩ := R6.own j d w
            exact ⟨a, y1, y2.mono kD (fun o e => by rw [upd_ne (fun e' => y3 (by rw [e']; exact hE))]; exact e), y3, y4⟩, R6.inj, fun b y => let ⟨o, e⟩ := R6.eal b y; thr b o e, (fun b o y => by rw [hH0] at y; cases y), R6.prt⟩
        obtain ⟨Rw, sw⟩ := R7.wipe (vs := vs) (fun v _ h => by rw [hpr] at h; cases h)
        rw [wE] at Rw sw
        have st : Stp ρ1 σ H1 (wipeR ρ6 vs) (L2.wipe σb vs) (upd H6 D (.lst (accV ++ [z]))) := by
          have a1 := s3.trans Q6.1
          refine ⟨fun b o e n => ?_, fun b o e => ?_, fun b o e y => a1.own b o e (by
            obtain ⟨j, d, w1, w2⟩ := y
            by_cases hj : j ∈ vs
            · exact (wipeR_in hj w1).elim
            · rw [wipeR_out hj] at w1
              rw [← wE] at w2
              exact ⟨j, d, w1, (wipe_some w2).1⟩)⟩
          · have hb : b ≠ D := ne_of_none e nD
            rw [upd_ne hb]; exact a1.keep b o e n
          · obtain ⟨o', e'⟩ := a1.all b o e
            by_cases hb : b = D
            · rw [hb]; exact ⟨_, upd_same⟩
            · exact ⟨o', by rw [upd_ne hb]; exact e'⟩
        exact ⟨wipeR ρ6 vs, accD ++ [r6.d], accV ++ [z], Rw, st, (k3.trans Q6.1.keeps).trans (kD.trans sw.keeps), f3, upd_same, (Reps.append ((rA.mono Q6.1.keeps).mono kD) (.cons (v6.mono kD) .nil)).mono sw.keeps, wk.keeps _ _ _ _ (wk.keeps _ _ _ _ g3 (Q6.1.keeps)) (kD.trans sw.keeps)⟩
      · cases f3
  · have e : i = ds.length := by omega
    subst e
    rw [List.drop_length] at f3
    cases f3
    exact .inl ⟨wk.stops H2 _ g3, fin H2 accV R3 s3 k3 eD rA⟩
variable {vs1 tv1 : List Nat} {fi1 : MIt} {g1 : SG} {t1 : MB}
theorem lc2_read {σ : L2.St} {H : Hp} {Q : VK} (hq : tE X (eLc2 vs vs1 fi g t fi1 g1 t1 f) σ H Q) (htv : ∀ i ∈ tv, i ∈ vs) (hv1 : ∀ i ∈ vs1, i ∈ vs) (htv1 : ∀ i ∈ tv1, i ∈ vs1) :
    tLc2 (tIt X fi) (tG X [] tv g) (tT X t) (tIt X fi1) (tG X [] tv1 g1) (tT X t1) (tE X f) vs vs1 σ H Q := by
  obtain ⟨c, E, ρ, rv, ρ', hK, hR, hf, q⟩ := hq
  obtain ⟨⟨ds, ρ1⟩, h1, hf⟩ := bindS hf
  split at hf
  · cases hf
  · rename_i no
    have no : ∀ v ∈ vs, ownAt ρ1 v = false := by
      intro v hv
      cases w : ownAt ρ1 v with
      | false => rfl
      | true => exact absurd (List.any_eq_true.mpr ⟨v, hv, w⟩) no
    obtain ⟨⟨out, ρ2⟩, h2, hf⟩ := bindS hf
    cases hf
    refine ⟨c, E, ρ, ds, ρ1, hK, hR, h1, fun J Gd H1 P1 wk gd1 D nD => ?_⟩
    obtain ⟨s1, R1⟩ := P1
    have nE : ¬ E D := fun y => by obtain ⟨o, e⟩ := R1.eal D y; rw [nD] at e; cases e
    have Ra : R c.blk (Add E D) ρ1 σ (upd H1 D (.lst [])) := (R1.add (o := .lst []) nD (Grow.upd nD) upd_same).blk
    obtain ⟨Rb, sb⟩ := Ra.wipe (vs := vs) (fun v _ h => by cases h)
    have g2 : Gd (upd H1 D (.lst [])) (OE (wipeR ρ1 vs) (L2.wipe σ vs) (Add E D)) := wk.keeps _ _ _ _ gd1 fun b o e n => ⟨by rw [upd_ne (ne_of_none e nD)]; exact e, fun y => by
      rcases y with (y | y) | y
      · exact n (.inl y)
      · rw [y, nD] at e; cases e
      · exact n (.inr (OwnS_wipe b y))⟩
    have s0 : Stp ρ1 σ H1 (wipeR ρ1 vs) (L2.wipe σ vs) (upd H1 D (.lst [])) := (Grow.upd nD).stp.trans sb
    refine ⟨fun i m H2 => m = ds.length - i ∧ i ≤ ds.length ∧ ∃ ρ3 accD accV, R c.blk (Add E D) ρ3 (L2.wipe σ vs) H2 ∧ Stp ρ1 σ H1 ρ3 (L2.wipe σ vs) H2 ∧ lcL2 vs vs1 g t fi1 g1 t1 f (ds.drop i) ρ3 accD = some (out, ρ2) ∧ H2 D = some (.lst accV) ∧
      Reps c.K H2 (OE ρ3 (L2.wipe σ vs) (Add E D)) accD accV ∧ Gd H2 (OE ρ3 (L2.wipe σ vs) (Add E D)), ⟨ds.length, by simp, Nat.zero_le _, wipeR ρ1 vs, [], [], Rb, s0, h2, upd_same, .nil, g2⟩, ?_⟩
    rintro i m H2 ⟨rfl, hi, ρ3, accD, accV, R3, s3, f3, eD, rA, g3⟩
    by_cases hlt : i < ds.length
    · have ed : ds[i]? = some ds[i] := List.getElem?_eq_getElem hlt
      rw [List.drop_eq_getElem_cons hlt] at f3
      obtain ⟨ρ4, h4, f3⟩ := bindS f3
      obtain ⟨⟨b5, ρ5⟩, h5, f3⟩ := bindS f3
      refine .inr ⟨wk.goes i H2 _ hlt g3, fun H' => ∃ ρ3 accD accV, R c.blk (Add E D) ρ3 (L2.wipe σ vs) H' ∧ Stp ρ1 σ H1 ρ3 (L2.wipe σ vs) H' ∧ lcL2 vs vs1 g t fi1 g1 t1 f (ds.drop (i + 1)) ρ3 accD = some (out, ρ2) ∧ H' D = some (.lst accV) ∧
        Reps c.K H' (OE ρ3 (L2.wipe σ vs) (Add E D)) accD accV ∧ Gd H' (OE ρ3 (L2.wipe σ vs) (Add E D)), fun H' h => ⟨ds.length - (i + 1), by omega, rfl, hlt, h⟩, fun x H3 y => ?_⟩
      obtain ⟨gr, rp⟩ := wk.yields i H2 _ x H3 _ ed g3 (oe_there R3) y
      have P3 : PostN c.blk (Add E D) ρ3 (L2.wipe σ vs) H2 ρ3 (L2.wipe σ vs) H3 := ⟨gr.stp, R3.grow gr⟩
      refine ⟨c.blk, Add E D, ρ3, ds[i], ρ4, hK, rfl, P3.2, rp, h4, fun σ4 H4 P4 sm => ⟨wipe_same (vs := vs) ⟨by rw [sm.1, wipe_length], fun j hj => by rw [sm.2 j fun h => hj (htv j h), wipe_out hj]⟩, ?_⟩⟩
      have wE : L2.wipe σ4 vs = L2.wipe σ vs := wipe_same (vs := vs) ⟨by rw [sm.1, wipe_length], fun j hj => by rw [sm.2 j fun h => hj (htv j h), wipe_out hj]⟩
      refine ⟨c.blk, Add E D, ρ4, b5, ρ5, hK, P4.2, h5, fun H5 P5 => ?_⟩
      have Q5 : PostN c.blk (Add E D) ρ3 (L2.wipe σ vs) H2 ρ5 σ4 H5 := (P3.trans P4).trans P5
      have nOD : ∀ {ρx : Rho} {σx : L2.St} {Hx : Hp}, R c.blk (Add E D) ρx σx Hx → ¬ OwnS ρx σx D := fun r y => r.own_not y (.inr rfl)
      cases b5 with
      | false =>
        have f3 : lcL2 vs vs1 g t fi1 g1 t1 f (ds.drop (i + 1)) (wipeR ρ5 vs) accD = some (out, ρ2) := f3
        obtain ⟨Rw, sw⟩ := Q5.2.wipe (vs := vs) (fun v _ h => by cases h)
        rw [wE] at Rw sw
        exact iteF ⟨wipeR ρ5 vs, accD, accV, Rw, s3.trans (Q5.1.trans sw), f3, Q5.1.keep D _ eD (nOD R3), (rA.mono Q5.1.keeps).mono sw.keeps, wk.keeps _ _ _ _ g3 (Q5.1.trans sw).keeps⟩
      | true =>
        obtain ⟨⟨ds1, ρ6⟩, h6, f3⟩ := bindS f3
        obtain ⟨⟨out1, ρ7⟩, h7, f3⟩ := bindS f3
        refine iteT ⟨c.blk, Add E D, ρ5, ds1, ρ6, hK, P5.2, h6, fun J1 Gd1 H6 P6 wk1 gd2 => ?_⟩
        have Q6 : PostN c.blk (Add E D) ρ3 (L2.wipe σ vs) H2 ρ6 σ4 H6 := Q5.trans P6
        obtain ⟨Rw, sw⟩ := P6.2.wipe (vs := vs1) (fun v _ h => by cases h)
        have www : L2.wipe (L2.wipe σ4 vs1) vs = L2.wipe σ vs := (wipe_wipe hv1).trans wE
        refine lc_in (X := X) (c := c.blk) (E := Add E D) (ρ1 := ρ1) (σ := σ) (σb := σ4) (H1 := H1) (vs := vs1) (tv := tv1) (g := g1) (t := t1) (f := f) hK rfl rfl (.inr rfl) nD htv1 wk1 Rw (s3.trans (Q6.1.trans sw)) h7 (Q6.1.keep D _ eD (nOD R3)) ((rA.mono Q6.1.keeps).mono sw.keeps) (wk1.keeps _ _ _ _ gd2 sw.keeps) fun H' accV' R8 s8 k8 eD8 rA8 => ?_
        obtain ⟨Rw9, sw9⟩ := R8.wipe (vs := vs) (fun v _ h => by cases h)
        rw [www] at Rw9 sw9
        exact ⟨wipeR ρ7 vs, out1, accV', Rw9, s8.trans sw9, f3, eD8, rA8.mono sw9.keeps, wk.keeps _ _ _ _ g3 (((Q6.1.trans sw).keeps.trans k8).trans sw9.keeps)⟩
    · have e : i = ds.length := by omega
      subst e
      rw [List.drop_length] at f3
      cases f3
      refine .inl ⟨wk.stops H2 _ g3, q _ H2 ⟨D, rfl, ?_, ?_, ?_, ?_⟩⟩
      all_goals obtain ⟨Ru, su, oS⟩ := R.unblk (c := c) (E := E) (E' := Add E D) R1 no R3 s3 (fun b o e y => y.elim id fun e' => by rw [e', nD] at e; cases e)
      · exact s1.trans su
      · cases w : H D with
        | none => rfl
        | some u => obtain ⟨u', e'⟩ := s1.all D u w; rw [nD] at e'; cases e'
      · exact Ru
      · refine ⟨accV, eD, rA.mono fun b o e n => ⟨e, fun y => n ?_⟩⟩
        rcases y with y | y
        · exact .inl y
        · rw [oS] at y; exact .inr y
end
end Z
namespace Z
open PySem PySem.Spec L2
open PyProof.Rows hiding St

/-! ## more expressions -/
def tyD : D → String
  | .none => "NoneType"
  | .bool _ => "bool"
  | .int _ => "int"
  | .str _ => "str"
  | .list _ => "list"
  | .tuple _ => "tuple"
  | .dict _ => "dict"
def knownTy : List String := ["int", "bool", "str", "list", "tuple", "dict"]
def isT (t T : String) : Bool := t == T || (t == "bool" && T == "int")
def isA (T : String) (d : D) : Bool := isT (tyD d) T
def isiD (Ts : List String) (d : D) : Bool := Ts.any fun T => isA T d
def allTy : List String := ["NoneType", "int", "bool", "str", "list", "tuple", "dict"]
theorem kit_all : (allTy.all fun t => knownTy.all fun T => decide (kitB t T = some (isT t T))) = true := by decide +kernel
theorem tyD_all (d : D) : tyD d ∈ allTy := by cases d <;> simp [tyD, allTy]
theorem kit_isA {K : PySem.W.Frag} (d : D) : ∀ T ∈ knownTy, PySem.W.kitOne K (.type (tyD d)) (.type T) = some (isA T d) := fun T hT =>
  kit_ty (of_decide_eq_true (List.all_eq_true.mp (List.all_eq_true.mp kit_all _ (tyD_all d)) T hT))
theorem kit_any {K : PySem.W.Frag} (d : D) : ∀ Ts : List String, (∀ T ∈ Ts, T ∈ knownTy) → PySem.W.kitAny K (.type (tyD d)) (Ts.map .type) = some (isiD Ts d)
  | [], _ => rfl
  | T :: Ts, h => by
    refine kitAny_cons (kit_isA d T (h T List.mem_cons_self)) (fun e => ?_) fun e => ?_
    · rw [kit_any d Ts fun U hU => h U (List.mem_cons_of_mem _ hU)]
      unfold isiD
      rw [List.any_cons, e, Bool.false_or]
    · unfold isiD
      rw [List.any_cons, e, Bool.true_or]
theorem ty_top {K : PySem.W.Frag} {H : Hp} {O : AS} {d : D} {x : V} (t : Top K H O d x) : TyX K H x (.type (tyD d)) := by
  have lst : ∀ {a : Addr} {vs : List V}, SqL K H a vs → TyX K H (.ref a) (.type "list") := fun {a vs} h => by
    rcases h with (h | ⟨o, h⟩) | ⟨o, its, n, h, c, _⟩
    · exact .base (.lst h)
    · exact .base (.frz h)
    · exact .kList h c
  have tup : ∀ {a : Addr} {vs : List V}, SqT K H a vs → TyX K H (.ref a) (.type "tuple") := fun {a vs} h => by
    rcases h with (h | ⟨o, h⟩) | ⟨o, its, n, h, c, _⟩
    · exact .base (.tup h)
    · exact .fTuple h
    · exact .kTuple h c
  rcases t with t | ⟨a, rfl, t⟩
  · cases t with
    | non => exact .base .non
    | bl b => exact .base (.bl b)
    | int i => exact .base (.int i)
    | str s _ => exact .base (.str s)
    | lst l _ => exact lst l.sq
    | tup l _ => exact tup l.sq
    | dic l _ _ => exact .base (.dK l)
  · cases d with
    | list ds => obtain ⟨vs, e, _⟩ := t; exact .base (.lst e)
    | dict ds => obtain ⟨vs, e, _⟩ := t; exact .base (.dK e)
    | _ => exact (show False from t).elim
def eIsi (Ts : List String) (fo : MO) : ME := fun ρ => (fo ρ).bind fun r => (r.1.get r.2).bind fun d => some (.v (.bool (isiD Ts d)), r.2)
/-- the classes' names -/
def tTys (Ts : List String) : TA := fun _ H Q => Q (Ts.map .ty) H

section
variable {X : Cx} {e a b : Expr} {es : List Expr} {fo : MO} {f : ME} {fs : MOs} {pos p : Pos}
theorem zt_nil : PA X [] (tTys []) := ⟨fun pos pins s σ H Q I h => pa_nil.run pos pins s σ H Q I h⟩
theorem zt_cons {T : String} {Ts : List String} (h1 : PE X e (tC (.ty T))) (h2 : PA X es (tTys Ts)) (hs : starEach (e :: es) X.env = (false, eval e X.env) :: starEach es X.env) : PA X (e :: es) (tTys (T :: Ts)) :=
  ⟨fun pos pins s σ H Q I h => (pa_cons h1 h2 hs).run pos pins s σ H Q I h⟩
theorem isi_read {σ : L2.St} {H : Hp} {Q : VK} {Ts : List String} {r : V → List V → Hp → VK → Prop} (hq : tE X (eIsi Ts fo) σ H Q)
    (h : ∀ (O : AS) (d : D) (z : V) (H1 : Hp), Top X.K H1 O d z → (∀ H' , Grow H1 H' → Q (.bl (isiD Ts d)) H') → r z [] H1 Q) : tOpd X fo σ H fun z H1 => r z [] H1 Q := by
  obtain ⟨c, E, ρ, rv, ρ', hK, hR, hf, q⟩ := hq
  obtain ⟨⟨p1, ρ1⟩, h1, hf⟩ := bindS hf
  obtain ⟨d, h2, hf⟩ := bindS hf
  cases hf
  refine ⟨c, E, ρ, p1, ρ1, hK, hR, h1, fun z H1 P1 => h (OE ρ1 σ E) d z H1 (by rw [← hK]; exact P1.top Stp.rfl P1.2.1 h2) fun H' g => q _ H' ⟨P1.1.trans g.stp, P1.2.1.grow g, .bl _⟩⟩
theorem zpe_isi1 {T : String} (hT : T ∈ knownTy) (hg : Gl X "isinstance") (hm : X.mg "isinstance" = none) (ha : PE X a (tOpd X fo)) (hb : PE X b (tC (.ty T)))
    (h1 : starEach [a, b] X.env = (false, eval a X.env) :: starEach [b] X.env) (h2 : starEach [b] X.env = (false, eval b X.env) :: starEach [] X.env) (hpl : (backTo pos (starEach [b] X.env)).any (·.1) = false) :
    PE X (.Call (.Name "isinstance" p) [a, b] [] pos) (tE X (eIsi [T] fo)) := by
  refine ⟨fun pins s σ H Q I hq => (pe_callB call_isi hg hm (by decide +kernel) (pa_cons ha (pa_cons hb pa_nil h2) h1) (by decide) (by decide) h1 hpl).run pins s σ H Q I ?_⟩
  refine isi_read (r := fun z _ H1 Q => tC (.ty T) σ H1 fun y H2 => rIsi X.K [z, y] H2 Q) hq fun O d z H1 t q => ?_
  refine ⟨z, .ty T, .type (tyD d), .type T, isA T d, rfl, .ty T, ty_top t, kit_isA d T hT, ?_⟩
  have e : isA T d = isiD [T] d := by unfold isiD; simp
  rw [e]; exact q H1 Grow.rfl
theorem zpe_isiT {Ts : List String} {kk : Nat} {tp : Pos} (hT : ∀ T ∈ Ts, T ∈ knownTy) (hz : szb Ts.length = true) (hg : Gl X "isinstance") (hm : X.mg "isinstance" = none) (ha : PE X a (tOpd X fo)) (hb : PA X es (tTys Ts))
    (h1 : starEach [a, .Tuple es kk tp] X.env = (false, eval a X.env) :: starEach [.Tuple es kk tp] X.env) (h2 : starEach [.Tuple es kk tp] X.env = (false, eval (.Tuple es kk tp) X.env) :: starEach [] X.env) (hpl : (backTo pos (starEach [.Tuple es kk tp] X.env)).any (·.1) = false) :
    PE X (.Call (.Name "isinstance" p) [a, .Tuple es kk tp] [] pos) (tE X (eIsi Ts fo)) := by
  refine ⟨fun pins s σ H Q I hq => (pe_callB call_isiT hg hm (by decide +kernel) (pa_cons ha (pa_cons (pe_tup hb) pa_nil h2) h1) (by decide) (by decide) h1 hpl).run pins s σ H Q I ?_⟩
  refine isi_read (r := fun z _ H1 Q => tTup (tTys Ts) σ H1 fun y H2 => rIsiT X.K [z, y] H2 Q) hq fun O d z H1 t q => ?_
  refine ⟨by rw [List.length_map]; exact szb_ok hz, fun P nP => ⟨z, P, Ts.map .ty, .type (tyD d), Ts.map .type, isiD Ts d, rfl, upd_same, ?_, ?_, kit_any d Ts hT, q _ (Grow.upd nP)⟩⟩
  · clear hT hz hb h1 h2 hpl q hq
    induction Ts with
    | nil => exact .nil
    | cons T Ts ih => exact .cons (.ty T) ih
  · have gr : Grow H1 (upd H1 P (.tup (Ts.map .ty))) := Grow.upd nP
    have t' : Top X.K (upd H1 P (.tup (Ts.map .ty))) O d z := t.elim (fun r => .inl (r.mono gr.keeps)) fun ⟨a, e, r⟩ => .inr ⟨a, e, r.mono gr.keeps (gr a)⟩
    exact ty_top t'
/-! own defs -/
theorem zpe_call {F : FnS} {fs : MAs} {x : Str} {k : Nat} {f0 : Addr} {fd : FuncData} {ps : List Str} (Fo : FnOk X.prog X.w X.K X.mg X.base CX0 k f0 fd ps (spF X.K F)) (hr : Room k X.A) (hg : Gl X x) (hm : X.mg x = some (.ref f0)) (hk : PySem.W.keepIn X.K (.ref f0) = true) (hb : Binds X.K fd ps [])
    (ha : PA X (e :: es) (tAs X fs)) (hdb : (x == ("__debug__" : Str)) = false) (he : starEach (e :: es) X.env = (false, eval e X.env) :: starEach es X.env) (hpl : (backTo pos (starEach es X.env)).any (·.1) = false) :
    PE X (.Call (.Name x p) (e :: es) [] pos) (tE X (eCall F fs)) :=
  ⟨fun pins s σ H Q I hq => (pe_call (E := E0) Fo hr hg hm hk hb .nil pass0 ha hdb he hpl).run pins s σ H Q I (call_read hq)⟩
theorem zpe_call0 {F : FnS} {x : Str} {k : Nat} {f0 : Addr} {fd : FuncData} {ps : List Str} (Fo : FnOk X.prog X.w X.K X.mg X.base CX0 k f0 fd ps (spF X.K F)) (hr : Room k X.A) (hg : Gl X x) (hm : X.mg x = some (.ref f0)) (hk : PySem.W.keepIn X.K (.ref f0) = true) (hb : Binds X.K fd ps [])
    (hdb : (x == ("__debug__" : Str)) = false) : PE X (.Call (.Name x p) [] [] pos) (tE X (eCall F aNil)) := by
  refine ⟨fun pins s σ H Q I hq => (pe_call0 (E := E0) Fo hr hg hm hk hb .nil pass0 hdb).run pins s σ H Q I ?_⟩
  obtain ⟨c, E, ρ, p1, ρ1, hK, hR, h1, h2⟩ := call_read hq
  cases h1
  have h1 : R c (AddL E []) ρ σ H := by rw [AddL_nil]; exact hR
  have h3 : ArAt c (AddL E []) ρ σ H [] [] [] := by unfold ArAt; exact True.intro
  exact h2 [] [] H ⟨Stp.rfl, h1, h3, (fun a h => by cases h), List.nodup_nil⟩
/-! comprehensions -/
theorem zpe_lc {elt tg iter : Expr} {ifs : List Expr} {scope : Scope} {own : List (Str × Nat)} {tv : List Nat} {fi : MIt} {g : SG} {t : MB} (hc : X.calm = true) (hN : X.N.Nodup) (hi : PI X tg iter (tIt X fi)) (ok : BlkOk X.N X.env.scope scope own)
    (hg : ∀ (s : Shared) (H : Hp) (C : Addr) (cl : List (Str × Addr)) (fp : List Addr), PG (X.blk s H scope (compEnvC scope cl C X.env) fp) tg (tG (X.blk s H scope (compEnvC scope cl C X.env) fp) [] tv g))
    (ht : ∀ (s : Shared) (H : Hp) (C : Addr) (cl : List (Str × Addr)) (fp : List Addr), PTs (X.blk s H scope (compEnvC scope cl C X.env) fp) ifs (tT (X.blk s H scope (compEnvC scope cl C X.env) fp) t))
    (he : ∀ (s : Shared) (H : Hp) (C : Addr) (cl : List (Str × Addr)) (fp : List Addr), PE (X.blk s H scope (compEnvC scope cl C X.env) fp) elt (tE (X.blk s H scope (compEnvC scope cl C X.env) fp) f))
    (hs : ∀ x, foldedSetIterable iter X.env x = pure x) (htv : ∀ i ∈ tv, i ∈ own.map (·.2)) : PE X (.ListComp elt [⟨tg, iter, ifs, 0⟩] scope pos) (tE X (eLc (own.map (·.2)) fi g t f)) :=
  ⟨fun pins s σ H Q I hq => (pe_lc (te := tE X f) (tt := tT X t) (g := tG X [] tv g) hc hN hi ok hg ht he hs).run pins s σ H Q I (lc_read hq htv)⟩
theorem zs_setLc {i : Nat} {y : Str} {py spos : Pos} {pr : List Nat} {elt tg iter : Expr} {ifs : List Expr} {scope : Scope} {own : List (Str × Nat)} {tv : List Nat} {fi : MIt} {g : SG} {t : MB} (hc : X.calm = true) (hN : X.N.Nodup) (hy : X.N[i]? = some y) (hyl : X.env.scope.names.lookup y = some .local)
    (hsw : swapsWith (.ListComp elt [⟨tg, iter, ifs, 0⟩] scope pos) (some (.Name y py)) spos.line X.env = pure true) (hi : PI X tg iter (tIt X fi)) (ok : BlkOk X.N X.env.scope scope own)
    (hg : ∀ (s : Shared) (H : Hp) (C : Addr) (cl : List (Str × Addr)) (fp : List Addr), PG (X.blk s H scope (compEnvC scope cl C X.env) fp) tg (tG (X.blk s H scope (compEnvC scope cl C X.env) fp) [] tv g))
    (ht : ∀ (s : Shared) (H : Hp) (C : Addr) (cl : List (Str × Addr)) (fp : List Addr), PTs (X.blk s H scope (compEnvC scope cl C X.env) fp) ifs (tT (X.blk s H scope (compEnvC scope cl C X.env) fp) t))
    (he : ∀ (s : Shared) (H : Hp) (C : Addr) (cl : List (Str × Addr)) (fp : List Addr), PE (X.blk s H scope (compEnvC scope cl C X.env) fp) elt (tE (X.blk s H scope (compEnvC scope cl C X.env) fp) f))
    (hs : ∀ x, foldedSetIterable iter X.env x = pure x) (htv : ∀ i ∈ tv, i ∈ own.map (·.2)) : PS X (.Assign [.Name y py] (.ListComp elt [⟨tg, iter, ifs, 0⟩] scope pos) spos) (tS X pr (sSet pr i (eLc (own.map (·.2)) fi g t f))) := by
  refine ⟨fun pins s σ H Dd I hq => (ps_setLc (te := tE X f) (tt := tT X t) (g := tG X [] tv g) hc hN hy hyl hsw hi ok hg ht he hs).run pins s σ H Dd I ?_⟩
  obtain ⟨c, E, ρ, out, ρ', hK, hp, hR, hf, q⟩ := hq
  unfold sSet at hf
  split at hf
  · cases hf
  · rename_i np
    obtain ⟨⟨rv, ρ1⟩, h1, hf⟩ := bindS hf
    cases hf
    exact lc_read (tv := tv) ⟨c, E, ρ, rv, ρ1, hK, hR, h1, fun z H1 P1 => q _ H1 (post_set hR P1 (by rw [hp]; exact ncont np))⟩ htv
theorem zpe_lc2 {elt tg iter tg1 iter1 : Expr} {ifs ifs1 : List Expr} {scope : Scope} {own : List (Str × Nat)} {tv vs1 : List Nat} {fi fi1 : MIt} {g g1 : SG} {t t1 : MB} (hc : X.calm = true) (hN : X.N.Nodup) (hi : PI X tg iter (tIt X fi)) (ok : BlkOk X.N X.env.scope scope own) (hv : ∀ i ∈ vs1, i ∈ own.map (·.2))
    (hg : ∀ (s : Shared) (H : Hp) (C : Addr) (cl : List (Str × Addr)) (fp : List Addr), PG (X.blk s H scope (compEnvC scope cl C X.env) fp) tg (tG (X.blk s H scope (compEnvC scope cl C X.env) fp) [] tv g))
    (ht : ∀ (s : Shared) (H : Hp) (C : Addr) (cl : List (Str × Addr)) (fp : List Addr), PTs (X.blk s H scope (compEnvC scope cl C X.env) fp) ifs (tT (X.blk s H scope (compEnvC scope cl C X.env) fp) t))
    (hi1 : ∀ (s : Shared) (H : Hp) (C : Addr) (cl : List (Str × Addr)) (fp : List Addr), PI (X.blk s H scope (compEnvC scope cl C X.env) fp) tg1 iter1 (tIt (X.blk s H scope (compEnvC scope cl C X.env) fp) fi1))
    (hg1 : ∀ (s : Shared) (H : Hp) (C : Addr) (cl : List (Str × Addr)) (fp : List Addr), PG (X.blk s H scope (compEnvC scope cl C X.env) fp) tg1 (tG (X.blk s H scope (compEnvC scope cl C X.env) fp) [] vs1 g1))
    (ht1 : ∀ (s : Shared) (H : Hp) (C : Addr) (cl : List (Str × Addr)) (fp : List Addr), PTs (X.blk s H scope (compEnvC scope cl C X.env) fp) ifs1 (tT (X.blk s H scope (compEnvC scope cl C X.env) fp) t1))
    (he : ∀ (s : Shared) (H : Hp) (C : Addr) (cl : List (Str × Addr)) (fp : List Addr), PE (X.blk s H scope (compEnvC scope cl C X.env) fp) elt (tE (X.blk s H scope (compEnvC scope cl C X.env) fp) f))
    (hs : ∀ x, foldedSetIterable iter X.env x = pure x) (hs1 : ∀ env x, foldedSetIterable iter1 env x = pure x) (htv : ∀ i ∈ tv, i ∈ own.map (·.2)) : PE X (.ListComp elt [⟨tg, iter, ifs, 0⟩, ⟨tg1, iter1, ifs1, 0⟩] scope pos) (tE X (eLc2 (own.map (·.2)) vs1 fi g t fi1 g1 t1 f)) :=
  ⟨fun pins s σ H Q I hq => (pe_lc2 (te := tE X f) (tt := tT X t) (g := tG X [] tv g) (wi1 := tIt X fi1) (tt1 := tT X t1) (g1 := tG X [] vs1 g1) hc hN hi ok hv hg ht hi1 hg1 ht1 he hs hs1).run pins s σ H Q I (lc2_read hq htv hv fun _ h => h)⟩
theorem zs_setLc2 {i : Nat} {y : Str} {py spos : Pos} {pr : List Nat} {elt tg iter tg1 iter1 : Expr} {ifs ifs1 : List Expr} {scope : Scope} {own : List (Str × Nat)} {tv vs1 : List Nat} {fi fi1 : MIt} {g g1 : SG} {t t1 : MB} (hc : X.calm = true) (hN : X.N.Nodup) (hy : X.N[i]? = some y) (hyl : X.env.scope.names.lookup y = some .local)
    (hsw : swapsWith (.ListComp elt [⟨tg, iter, ifs, 0⟩, ⟨tg1, iter1, ifs1, 0⟩] scope pos) (some (.Name y py)) spos.line X.env = pure true) (hi : PI X tg iter (tIt X fi)) (ok : BlkOk X.N X.env.scope scope own) (hv : ∀ i ∈ vs1, i ∈ own.map (·.2))
    (hg : ∀ (s : Shared) (H : Hp) (C : Addr) (cl : List (Str × Addr)) (fp : List Addr), PG (X.blk s H scope (compEnvC scope cl C X.env) fp) tg (tG (X.blk s H scope (compEnvC scope cl C X.env) fp) [] tv g))
    (ht : ∀ (s : Shared) (H : Hp) (C : Addr) (cl : List (Str × Addr)) (fp : List Addr), PTs (X.blk s H scope (compEnvC scope cl C X.env) fp) ifs (tT (X.blk s H scope (compEnvC scope cl C X.env) fp) t))
    (hi1 : ∀ (s : Shared) (H : Hp) (C : Addr) (cl : List (Str × Addr)) (fp : List Addr), PI (X.blk s H scope (compEnvC scope cl C X.env) fp) tg1 iter1 (tIt (X.blk s H scope (compEnvC scope cl C X.env) fp) fi1))
    (hg1 : ∀ (s : Shared) (H : Hp) (C : Addr) (cl : List (Str × Addr)) (fp : List Addr), PG (X.blk s H scope (compEnvC scope cl C X.env) fp) tg1 (tG (X.blk s H scope (compEnvC scope cl C X.env) fp) [] vs1 g1))
    (ht1 : ∀ (s : Shared) (H : Hp) (C : Addr) (cl : List (Str × Addr)) (fp : List Addr), PTs (X.blk s H scope (compEnvC scope cl C X.env) fp) ifs1 (tT (X.blk s H scope (compEnvC scope cl C X.env) fp) t1))
    (he : ∀ (s : Shared) (H : Hp) (C : Addr) (cl : List (Str × Addr)) (fp : List Addr), PE (X.blk s H scope (compEnvC scope cl C X.env) fp) elt (tE (X.blk s H scope (compEnvC scope cl C X.env) fp) f))
    (hs : ∀ x, foldedSetIterable iter X.env x = pure x) (hs1 : ∀ env x, foldedSetIterable iter1 env x = pure x) (htv : ∀ i ∈ tv, i ∈ own.map (·.2)) : PS X (.Assign [.Name y py] (.ListComp elt [⟨tg, iter, ifs, 0⟩, ⟨tg1, iter1, ifs1, 0⟩] scope pos) spos) (tS X pr (sSet pr i (eLc2 (own.map (·.2)) vs1 fi g t fi1 g1 t1 f))) := by
  refine ⟨fun pins s σ H Dd I hq => (ps_setLc2 (te := tE X f) (tt := tT X t) (g := tG X [] tv g) (wi1 := tIt X fi1) (tt1 := tT X t1) (g1 := tG X [] vs1 g1) hc hN hy hyl hsw hi ok hv hg ht hi1 hg1 ht1 he hs hs1).run pins s σ H Dd I ?_⟩
  obtain ⟨c, E, ρ, out, ρ', hK, hp, hR, hf, q⟩ := hq
  unfold sSet at hf
  split at hf
  · cases hf
  · rename_i np
    obtain ⟨⟨rv, ρ1⟩, h1, hf⟩ := bindS hf
    cases hf
    exact lc2_read (tv := tv) (tv1 := vs1) ⟨c, E, ρ, rv, ρ1, hK, hR, h1, fun z H1 P1 => q _ H1 (post_set hR P1 (by rw [hp]; exact ncont np))⟩ htv hv fun _ h => h
theorem zts_nil : PTs X [] (tT X bYes) := by
  refine ⟨fun pins s σ H Q I hq => pts_nil.run pins s σ H Q I ?_⟩
  obtain ⟨c, E, ρ, b, ρ', hK, hR, hf, q⟩ := hq
  cases hf
  exact q H ⟨Stp.rfl, hR⟩
/-! lists that grow and shrink -/
def lastD (ds : List D) : Option D := ds[ds.length - 1]?
def eApp (i : Nat) (f : ME) : ME := fun ρ => match slot ρ i with
  | some (.list _) => (f ρ).bind fun r => match r.2[i]? with
    | some (some (.o (.list ds))) => if decide (ds.length < 16777216) then some (.v .none, r.2.set i (some (.o (.list (ds ++ [r.1.d]))))) else none
    | _ => none
  | _ => none
def ePop (i : Nat) : ME := fun ρ => match ρ[i]? with
  | some (some (.o (.list ds))) => (lastD ds).bind fun d => some (.v d, ρ.set i (some (.o (.list ds.dropLast))))
  | _ => none
theorem Reps.dropLast {K : PySem.W.Frag} {H : Hp} {O : AS} {ds : List D} {vs : List V} (r : Reps K H O ds vs) : Reps K H O ds.dropLast vs.dropLast := by
  rw [List.dropLast_eq_take, List.dropLast_eq_take, ← r.length]
  exact r.take _
theorem zpe_app {i : Nat} {o : Expr} {apos : Pos} (ho : PE X o (tVar i)) (ha : PE X a (tE X f)) (hbase : attributeBase o "append" X.env (eval o X.env) = eval o X.env)
    (hfew : ((backTo pos (starEach [a] X.env)).all (fun x => !x.1) && (backToKw pos (keywordEach [] X.env)).all (fun x => x.1.isSome)
      && decide (([a] : List Expr).length + ([] : List Keyword).length + (if ([] : List Keyword).isEmpty then 0 else 1) < 30)) = true)
    (hline : (apos.endLine == pos.line) = true) (hs : starEach [a] X.env = (false, eval a X.env) :: starEach [] X.env) (hplain : (backTo pos (starEach [] X.env)).any (·.1) = false) :
    PE X (.Call (.Attribute o "append" apos) [a] [] pos) (tE X (eApp i f)) := by
  refine ⟨fun pins s σ H Q I hq => (pe_bm PySem.F.plainAttrs_list PySem.F.slot_list_append PySem.F.type_list_append mt_append ho (pa_cons ha pa_nil hs) hbase hfew hline hs hplain).run pins s σ H Q I ?_⟩
  obtain ⟨c, E, ρ, rv, ρ', hK, hR, hf, q⟩ := hq
  unfold eApp at hf
  split at hf
  · rename_i ds0 h0
    obtain ⟨z, hz⟩ := hR.slot_some h0
    obtain ⟨⟨r1, ρ1⟩, h1, hf⟩ := bindS hf
    split at hf
    · rename_i ds hds
      split at hf
      · rename_i hz2
        cases hf
        have t0 := hR.top h0 hz
        obtain ⟨a0, vs0, rfl, sq0, _⟩ := t0.list
        refine ⟨_, hz, .inl ⟨rfl, vs0, by rw [← hK]; exact sq0⟩, c, E, ρ, r1, ρ1, hK, hR, h1, fun y H1 P1 => ?_⟩
        obtain ⟨s1, R1, v1⟩ := P1.pv hR
        obtain ⟨x, x1, ⟨vs, x2, x3⟩, _⟩ := R1.own i _ hds
        rw [hz] at x1
        cases x1
        refine ⟨a0, vs, y, rfl, rfl, x2, by rw [sizeLine_eq, ← x3.length]; exact of_decide_eq_true hz2, ?_⟩
        have k := keeps_upd (c := c) (E := E) (H := H1) (o := .lst (vs ++ [y])) ⟨i, _, hds, hz⟩
        obtain ⟨R2, s2⟩ := R1.chg (d' := .list (ds ++ [r1.d])) (H' := upd H1 a0 (.lst (vs ++ [y]))) hds hz (fun b o hb w => by rw [upd_ne hb]; exact w)
          ⟨_, upd_same, (x3.mono k).append (.cons (v1.mono k) .nil)⟩
        exact q _ _ ⟨s1.trans s2, R2, .non⟩
      · cases hf
    · cases hf
  · cases hf
theorem zpe_pop {i : Nat} {o : Expr} {apos : Pos} (ho : PE X o (tVar i)) (hbase : attributeBase o "pop" X.env (eval o X.env) = eval o X.env) (hline : (apos.endLine == pos.line) = true) :
    PE X (.Call (.Attribute o "pop" apos) [] [] pos) (tE X (ePop i)) := by
  refine ⟨fun pins s σ H Q I hq => (pe_bm0 PySem.F.plainAttrs_list PySem.F.slot_list_pop PySem.F.type_list_pop mt_pop ho hbase hline).run pins s σ H Q I ?_⟩
  obtain ⟨c, E, ρ, rv, ρ', hK, hR, hf, q⟩ := hq
  unfold ePop at hf
  split at hf
  · rename_i ds hds
    obtain ⟨d, h1, hf⟩ := bindS hf
    cases hf
    obtain ⟨a0, hz, ⟨vs, x2, x3⟩, _⟩ := hR.own i _ hds
    unfold lastD at h1
    obtain ⟨y, y1, y2⟩ := x3.get h1
    refine ⟨_, hz, .inl ⟨rfl, vs, .inl (.inl x2)⟩, a0, vs, y, rfl, rfl, x2, by rw [← x3.length]; exact y1, ?_⟩
    have k := keeps_upd (c := c) (E := E) (H := H) (o := .lst vs.dropLast) ⟨i, _, hds, hz⟩
    obtain ⟨R2, s2⟩ := hR.chg (d' := .list ds.dropLast) (H' := upd H a0 (.lst vs.dropLast)) hds hz (fun b o hb w => by rw [upd_ne hb]; exact w)
      ⟨_, upd_same, (x3.mono k).dropLast⟩
    exact q _ _ ⟨s2, R2, y2.mono s2.keeps⟩
  · cases hf
def ePopAt (i : Nat) (f : ME) : ME := fun ρ => match slot ρ i with
  | some (.list _) => (f ρ).bind fun r => (asI r.1).bind fun j => match r.2[i]? with
    | some (some (.o (.list ds))) => if in62 j then (seqIndex? j ds.length).bind fun k => ds[k]?.bind fun d => some (.v d, r.2.set i (some (.o (.list (ds.eraseIdx k))))) else none
    | _ => none
  | _ => none
theorem Reps.erase {K : PySem.W.Frag} {H : Hp} {O : AS} : ∀ {ds : List D} {vs : List V} (k : Nat), Reps K H O ds vs → Reps K H O (ds.eraseIdx k) (vs.eraseIdx k)
  | _, _, _, .nil => .nil
  | _, _, 0, .cons _ t => t
  | _, _, k + 1, .cons a t => .cons a (Reps.erase k t)
theorem zpe_popAt {i : Nat} {o : Expr} {apos : Pos} (ho : PE X o (tVar i)) (ha : PE X a (tE X f)) (hbase : attributeBase o "pop" X.env (eval o X.env) = eval o X.env)
    (hfew : ((backTo pos (starEach [a] X.env)).all (fun x => !x.1) && (backToKw pos (keywordEach [] X.env)).all (fun x => x.1.isSome)
      && decide (([a] : List Expr).length + ([] : List Keyword).length + (if ([] : List Keyword).isEmpty then 0 else 1) < 30)) = true)
    (hline : (apos.endLine == pos.line) = true) (hs : starEach [a] X.env = (false, eval a X.env) :: starEach [] X.env) (hplain : (backTo pos (starEach [] X.env)).any (·.1) = false) :
    PE X (.Call (.Attribute o "pop" apos) [a] [] pos) (tE X (ePopAt i f)) := by
  refine ⟨fun pins s σ H Q I hq => (pe_bm PySem.F.plainAttrs_list PySem.F.slot_list_pop PySem.F.type_list_pop mt_popAt ho (pa_cons ha pa_nil hs) hbase hfew hline hs hplain).run pins s σ H Q I ?_⟩
  obtain ⟨c, E, ρ, rv, ρ', hK, hR, hf, q⟩ := hq
  unfold ePopAt at hf
  split at hf
  · rename_i ds0 h0
    obtain ⟨z, hz⟩ := hR.slot_some h0
    obtain ⟨⟨r1, ρ1⟩, h1, hf⟩ := bindS hf
    obtain ⟨j, hj, hf⟩ := bindS hf
    split at hf
    · rename_i ds hds
      split at hf
      · rename_i hc
        obtain ⟨k, hk, hf⟩ := bindS hf
        obtain ⟨d, hd, hf⟩ := bindS hf
        cases hf
        have t0 := hR.top h0 hz
        obtain ⟨a0, vs0, rfl, sq0, _⟩ := t0.list
        have ej := asI_ok hj
        subst ej
        refine ⟨_, hz, .inl ⟨rfl, vs0, by rw [← hK]; exact sq0⟩, c, E, ρ, .v (.int j), ρ1, hK, hR, h1, fun y H1 P1 => ?_⟩
        obtain ⟨s1, R1, v1⟩ := P1.v
        cases v1
        obtain ⟨x, x1, ⟨vs, x2, x3⟩, _⟩ := R1.own i _ hds
        rw [hz] at x1
        cases x1
        have hl := x3.length
        obtain ⟨y, y1, y2⟩ := x3.get hd
        have hc : j.natAbs < 4611686018427387904 := of_decide_eq_true hc
        refine ⟨a0, vs, j, k, y, rfl, rfl, x2, by omega, by omega, by rw [← hl]; exact hk, y1, ?_⟩
        have kp := keeps_upd (c := c) (E := E) (H := H1) (o := .lst (vs.eraseIdx k)) ⟨i, _, hds, hz⟩
        obtain ⟨R2, s2⟩ := R1.chg (d' := .list (ds.eraseIdx k)) (H' := upd H1 a0 (.lst (vs.eraseIdx k))) hds hz (fun b o hb w => by rw [upd_ne hb]; exact w)
          ⟨_, upd_same, (x3.mono kp).erase k⟩
        exact q _ _ ⟨s1.trans s2, R2, y2.mono s2.keeps⟩
      · cases hf
    · cases hf
  · cases hf
end
end Z
namespace Z
open PySem PySem.Spec L2
open PyProof.Rows hiding St

/-! ## values kept as they come; names stored side by side -/
def rvA : RV → AR
  | .v d => .tv d
  | .o d => .ow d
def aRv (f : ME) (g : MAs) : MAs := fun ρ => (f ρ).bind fun r => (g r.2).bind fun s => some (rvA r.1 :: s.1, s.2)
def rvOf : AR → Option RV
  | .tv d => some (.v d)
  | .ow d => some (.o d)
  | .sl _ => none
def rvsOf : List AR → Option (List RV)
  | [] => some []
  | p :: ps => (rvOf p).bind fun r => (rvsOf ps).bind fun rs => some (r :: rs)
def putRs : List Nat → List RV → Rho → Option Rho
  | [], [], ρ => some ρ
  | i :: is, rv :: rvs, ρ => putRs is rvs (ρ.set i (some rv))
  | _, _, _ => none
def sPar (pr is : List Nat) (f : MAs) : SS := fun ρ => if is.any pr.contains then none else (f ρ).bind fun r => (rvsOf r.1).bind fun rvs => (putRs is rvs r.2).bind fun ρ2 => some (.nx, ρ2)
def RsAt (K : PySem.W.Frag) (H : Hp) (O : AS) : List RV → List V → List Addr → Prop
  | [], [], [] => True
  | .v d :: ps, z :: zs, as => Rep K H O d z ∧ RsAt K H O ps zs as
  | .o d :: ps, z :: zs, a :: as => z = .ref a ∧ OwnAt K H O d a ∧ RsAt K H O ps zs as
  | _, _, _ => False
def setAll : List Nat → List V → L2.St → L2.St
  | i :: is, z :: zs, σ => setAll is zs (σ.set i (some z))
  | _, _, σ => σ
section
variable {X : Cx} {e : Expr} {es : List Expr} {f : ME} {g : MAs} {pos : Pos}
theorem za_rv (ha : PE X e (tE X f)) (hr : PA X es (tAs X g)) (hs : starEach (e :: es) X.env = (false, eval e X.env) :: starEach es X.env) : PA X (e :: es) (tAs X (aRv f g)) := by
  refine ⟨fun pos pins s σ H Q I hq => ?_⟩
  obtain ⟨c, E, ρ, p, ρ', hK, hR, hf, q⟩ := hq
  obtain ⟨⟨rv, ρ1⟩, h1, hf2⟩ := bindS hf
  cases rv with
  | v d => exact (za_tv ha hr hs).run pos pins s σ H Q I ⟨c, E, ρ, p, ρ', hK, hR, by unfold aTv; rw [h1]; exact hf2, q⟩
  | o d => exact (za_ow ha hr hs).run pos pins s σ H Q I ⟨c, E, ρ, p, ρ', hK, hR, by unfold aOw; rw [h1]; exact hf2, q⟩
theorem RsAt.mono {K : PySem.W.Frag} {H : Hp} {O O' : AS} (k : Keeps H O H O') : ∀ {ps : List RV} {zs : List V} {as : List Addr}, RsAt K H O ps zs as → RsAt K H O' ps zs as
  | [], [], [], _ => True.intro
  | .v d :: ps, z :: zs, as, h => ⟨h.1.mono k, RsAt.mono k h.2⟩
  | .o d :: ps, z :: zs, a :: as, h => ⟨h.1, h.2.1.mono k (fun _ q => q), RsAt.mono k h.2.2⟩
  | [], [], _ :: _, h => by cases h
  | [], _ :: _, _, h => by cases h
  | .v _ :: _, [], _, h => by cases h
  | .o _ :: _, [], _, h => by cases h
  | .o _ :: _, _ :: _, [], h => by cases h
theorem rs_at {c : Cn} {E : AS} {ρ : Rho} {σ : L2.St} {H : Hp} : ∀ {ps : List AR} {zs : List V} {as : List Addr} {rvs : List RV}, ArAt c E ρ σ H ps zs as → rvsOf ps = some rvs → RsAt c.K H (OE ρ σ E) rvs zs as
  | [], [], [], rvs, _, e => by cases e; exact True.intro
  | .tv d :: ps, z :: zs, as, rvs, h, e => by
    obtain ⟨r, e1, e⟩ := bindS e
    obtain ⟨rs, e2, e⟩ := bindS e
    cases e1; cases e
    exact ⟨h.1, rs_at h.2 e2⟩
  | .ow d :: ps, z :: zs, a :: as, rvs, h, e => by
    obtain ⟨r, e1, e⟩ := bindS e
    obtain ⟨rs, e2, e⟩ := bindS e
    cases e1; cases e
    exact ⟨h.1, h.2.1, rs_at h.2.2 e2⟩
  | .sl i :: ps, zs, as, rvs, h, e => by
    obtain ⟨r, e1, e⟩ := bindS e
    cases e1
  | [], [], _ :: _, _, h, _ => by cases h
  | [], _ :: _, _, _, h, _ => by cases h
  | .tv _ :: _, [], _, _, h, _ => by cases h
  | .ow _ :: _, [], _, _, h, _ => by cases h
  | .ow _ :: _, _ :: _, [], _, h, _ => by cases h
theorem Add_AddL {E : AS} {a : Addr} {as : List Addr} : Add (AddL E as) a = AddL E (a :: as) := by
  funext b; apply propext; constructor
  · rintro ((h | h) | h)
    · exact .inl h
    · exact .inr (List.mem_cons_of_mem _ h)
    · exact .inr (by rw [h]; exact List.mem_cons_self)
  · rintro (h | h)
    · exact .inl (.inl h)
    · rcases List.mem_cons.mp h with h | h
      · exact .inr h
      · exact .inl (.inr h)
theorem put_rs {c : Cn} {E : AS} {H : Hp} : ∀ {is : List Nat} {rvs : List RV} {zs : List V} {as : List Addr} {ρ ρ2 : Rho} {σ : L2.St}, R c (AddL E as) ρ σ H → RsAt c.K H (OE ρ σ (AddL E as)) rvs zs as → (∀ a ∈ as, ¬ E a ∧ c.H0 a = none) → as.Nodup → (∀ i ∈ is, i ∉ c.pr) → putRs is rvs ρ = some ρ2 →
    R c E ρ2 (setAll is zs σ) H ∧ ∀ b, OwnS ρ2 (setAll is zs σ) b → b ∈ as ∨ OwnS ρ σ b
  | [], [], [], [], ρ, ρ2, σ, r, _, _, _, _, e => by
    cases e
    rw [AddL_nil] at r
    exact ⟨r, fun b h => .inr h⟩
  | i :: is, .v d :: rvs, z :: zs, as, ρ, ρ2, σ, r, h, ha, nd, np, e => by
    obtain ⟨r1, s1⟩ := r.setV (i := i) h.1 (np i List.mem_cons_self)
    obtain ⟨g1, g2⟩ := put_rs r1 (h.2.mono s1.keeps) ha nd (fun j hj => np j (List.mem_cons_of_mem _ hj)) e
    refine ⟨g1, fun b hb => ?_⟩
    rcases g2 b hb with q | q
    · exact .inl q
    · obtain ⟨o, ho⟩ := r1.own_there q
      exact .inr (s1.own b o ho q)
  | i :: is, .o d :: rvs, z :: zs, a :: as, ρ, ρ2, σ, r, h, ha, nd, np, e => by
    obtain ⟨h1, h2, h3⟩ := h
    subst h1
    have nd' := List.nodup_cons.mp nd
    have r : R c (Add (AddL E as) a) ρ σ H := by rw [Add_AddL]; exact r
    obtain ⟨r1, s1⟩ := r.setO (i := i) (d := d) (by rw [Add_AddL]; exact h2) (fun y => y.elim (ha a List.mem_cons_self).1 nd'.1) (ha a List.mem_cons_self).2 (np i List.mem_cons_self)
    have k : Keeps H (OE ρ σ (AddL E (a :: as))) H (OE (ρ.set i (some (.o d))) (σ.set i (some (.ref a))) (AddL E as)) := fun b o q n => ⟨q, fun y => n (by
      rcases y with (y | y) | y
      · exact .inl (.inl y)
      · exact .inl (.inr (List.mem_cons_of_mem _ y))
      · rcases s1 b y with y | y
        · exact .inl (.inr (by rw [y]; exact List.mem_cons_self))
        · exact .inr y)⟩
    obtain ⟨g1, g2⟩ := put_rs r1 (h3.mono k) (fun b hb => ha b (List.mem_cons_of_mem _ hb)) nd'.2 (fun j hj => np j (List.mem_cons_of_mem _ hj)) e
    refine ⟨g1, fun b hb => ?_⟩
    rcases g2 b hb with q | q
    · exact .inl (List.mem_cons_of_mem _ q)
    · rcases s1 b q with q | q
      · exact .inl (by rw [q]; exact List.mem_cons_self)
      · exact .inr q
  | [], _ :: _, _, _, _, _, _, _, _, _, _, _, e => by cases e
  | _ :: _, [], _, _, _, _, _, _, _, _, _, _, e => by cases e
  | [], [], _ :: _, _, _, _, _, _, h, _, _, _, _ => by cases h
  | [], [], [], _ :: _, _, _, _, _, h, _, _, _, _ => by cases h
  | _ :: _, .v _ :: _, [], _, _, _, _, _, h, _, _, _, _ => by cases h
  | _ :: _, .o _ :: _, [], _, _, _, _, _, h, _, _, _, _ => by cases h
  | _ :: _, .o _ :: _, _ :: _, [], _, _, _, _, h, _, _, _, _ => by cases h
theorem rs_len {K : PySem.W.Frag} {H : Hp} {O : AS} : ∀ {ps : List RV} {zs : List V} {as : List Addr}, RsAt K H O ps zs as → ps.length = zs.length
  | [], [], [], _ => rfl
  | .v d :: ps, z :: zs, as, h => by simp [rs_len h.2]
  | .o d :: ps, z :: zs, a :: as, h => by simp [rs_len h.2.2]
  | [], [], _ :: _, h => by cases h
  | [], _ :: _, _, h => by cases h
  | .v _ :: _, [], _, h => by cases h
  | .o _ :: _, [], _, h => by cases h
  | .o _ :: _, _ :: _, [], h => by cases h
theorem putRs_len : ∀ {is : List Nat} {rvs : List RV} {ρ ρ2 : Rho}, putRs is rvs ρ = some ρ2 → is.length = rvs.length
  | [], [], _, _, _ => rfl
  | _ :: is, _ :: rvs, _, _, h => by simp [putRs_len (is := is) (rvs := rvs) h]
  | [], _ :: _, _, _, h => by cases h
  | _ :: _, [], _, _, h => by cases h
theorem par_read {pr is : List Nat} {f : MAs} {Dd : Ends} {σ : L2.St} {H : Hp} (hq : tS X pr (sPar pr is f) Dd σ H) : tAs X f σ H fun zs H1 => zs.length = is.length ∧ Dd.nx (setAll is zs σ) H1 := by
  obtain ⟨c, E, ρ, out, ρ', hK, hp, hR, hf, q⟩ := hq
  unfold sPar at hf
  split at hf
  · cases hf
  · rename_i np
    obtain ⟨⟨ps, ρ1⟩, h1, hf⟩ := bindS hf
    obtain ⟨rvs, h2, hf⟩ := bindS hf
    obtain ⟨ρ2, h3, hf⟩ := bindS hf
    cases hf
    refine ⟨c, E, ρ, ps, ρ1, hK, hR, h1, fun zs as H1 ⟨s1, r1, a1, n1, nd⟩ => ?_⟩
    have ra := rs_at a1 h2
    have np' : ∀ i ∈ is, i ∉ c.pr := fun i hi hj => np (List.any_eq_true.mpr ⟨i, hi, by rw [hp] at hj; simpa using hj⟩)
    obtain ⟨g1, g2⟩ := put_rs r1 ra (fun a ha => PostE.nE (ρ1 := ρ1) (H1 := H1) hR (n1 a ha)) nd np' h3
    refine ⟨by rw [← rs_len ra]; exact (putRs_len h3).symm, q _ H1 ⟨⟨s1.keep, s1.all, fun b o hb y => ?_⟩, g1⟩⟩
    rcases g2 b y with y | y
    · rw [n1 b y] at hb; cases hb
    · exact s1.own b o hb y
theorem zs_par {i j : Nat} {x y : Str} {a b : Expr} {f : MAs} {pr : List Nat} {px py pt : Pos} {kt k2 : Nat} {pt2 : Pos} (hc : X.calm = true) (hN : X.N.Nodup) (hi : X.N[i]? = some x) (hj : X.N[j]? = some y) (hij : i ≠ j)
    (hx : X.env.scope.names.lookup x = some .local) (hy : X.env.scope.names.lookup y = some .local) (ha : PA X [a, b] (tAs X f))
    (hw : swappedStores [.Tuple [.Name x px, .Name y py] kt pt] (.Tuple [a, b] k2 pt2) X.env = pure (some [x, y])) :
    PS X (.Assign [.Tuple [.Name x px, .Name y py] kt pt] (.Tuple [a, b] k2 pt2) pos) (tS X pr (sPar pr [i, j] f)) := by
  refine ⟨fun pins s σ H Dd I hq => (ps_par hc hN hi hj hij hx hy ha hw rfl).run pins s σ H Dd I ?_⟩
  obtain ⟨c, E, ρ, ps, ρ1, hK, hR, h1, h2⟩ := par_read hq
  refine ⟨c, E, ρ, ps, ρ1, hK, hR, h1, fun zs as H1 p => ?_⟩
  obtain ⟨l, n⟩ := h2 zs as H1 p
  match zs, l, n with
  | [v, w], _, n => exact ⟨v, w, rfl, n⟩
theorem zs_par3 {i j l : Nat} {x y z : Str} {a b c : Expr} {f : MAs} {pr : List Nat} {px py pz pt : Pos} {kt k2 : Nat} {pt2 : Pos} (hc : X.calm = true) (hN : X.N.Nodup) (hi : X.N[i]? = some x) (hj : X.N[j]? = some y) (hl : X.N[l]? = some z) (hij : i ≠ j) (hil : i ≠ l) (hjl : j ≠ l)
    (hx : X.env.scope.names.lookup x = some .local) (hy : X.env.scope.names.lookup y = some .local) (hz : X.env.scope.names.lookup z = some .local) (ha : PA X [a, b, c] (tAs X f))
    (hw : swappedStores [.Tuple [.Name x px, .Name y py, .Name z pz] kt pt] (.Tuple [a, b, c] k2 pt2) X.env = pure (some [x, y, z])) :
    PS X (.Assign [.Tuple [.Name x px, .Name y py, .Name z pz] kt pt] (.Tuple [a, b, c] k2 pt2) pos) (tS X pr (sPar pr [i, j, l] f)) := by
  refine ⟨fun pins s σ H Dd I hq => (ps_par3 hc hN hi hj hl hij hil hjl hx hy hz ha hw rfl).run pins s σ H Dd I ?_⟩
  obtain ⟨c, E, ρ, ps, ρ1, hK, hR, h1, h2⟩ := par_read hq
  refine ⟨c, E, ρ, ps, ρ1, hK, hR, h1, fun zs as H1 p => ?_⟩
  obtain ⟨l, n⟩ := h2 zs as H1 p
  match zs, l, n with
  | [v, w, u], _, n => exact ⟨v, w, u, rfl, n⟩
end

/-! four names at once: the tuple is made, then taken apart -/
section
variable {X : Cx}
theorem par_read_tup {pr is : List Nat} {f : MAs} {Dd : Ends} {σ : L2.St} {H : Hp} (hq : tS X pr (sPar pr is f) Dd σ H) : tAs X f σ H fun zs H1 => zs.length = is.length ∧ ∀ p, H1 p = none → Dd.nx (setAll is zs σ) (upd H1 p (.tup zs)) := by
  obtain ⟨c, E, ρ, out, ρ', hK, hp, hR, hf, q⟩ := hq
  unfold sPar at hf
  split at hf
  · cases hf
  · rename_i np
    obtain ⟨⟨ps, ρ1⟩, h1, hf⟩ := bindS hf
    obtain ⟨rvs, h2, hf⟩ := bindS hf
    obtain ⟨ρ2, h3, hf⟩ := bindS hf
    cases hf
    refine ⟨c, E, ρ, ps, ρ1, hK, hR, h1, fun zs as H1 ⟨s1, r1, a1, n1, nd⟩ => ?_⟩
    have ra := rs_at a1 h2
    have np' : ∀ i ∈ is, i ∉ c.pr := fun i hi hj => np (List.any_eq_true.mpr ⟨i, hi, by rw [hp] at hj; simpa using hj⟩)
    obtain ⟨g1, g2⟩ := put_rs r1 ra (fun a ha => PostE.nE (ρ1 := ρ1) (H1 := H1) hR (n1 a ha)) nd np' h3
    refine ⟨by rw [← rs_len ra]; exact (putRs_len h3).symm, fun p np => q _ _ ⟨⟨fun b o hb y => Grow.upd np b o (s1.keep b o hb y), fun b o hb => ?_, fun b o hb y => ?_⟩, g1.grow (Grow.upd np)⟩⟩
    · obtain ⟨o2, h⟩ := s1.all b o hb
      exact ⟨o2, Grow.upd np b o2 h⟩
    · rcases g2 b y with y | y
      · rw [n1 b y] at hb; cases hb
      · exact s1.own b o hb y
theorem zs_par4 {i j l m : Nat} {x y z w : Str} {a b c d : Expr} {f : MAs} {pr : List Nat} {px py pz pw pt : Pos} {kt k2 : Nat} {pt2 pos : Pos} (hc : X.calm = true) (hN : X.N.Nodup) (hi : X.N[i]? = some x) (hj : X.N[j]? = some y) (hl : X.N[l]? = some z) (hm : X.N[m]? = some w)
    (hx : X.env.scope.names.lookup x = some .local) (hy : X.env.scope.names.lookup y = some .local) (hz : X.env.scope.names.lookup z = some .local) (hww : X.env.scope.names.lookup w = some .local) (ha : PA X [a, b, c, d] (tAs X f))
    (hw : swappedStores [.Tuple [.Name x px, .Name y py, .Name z pz, .Name w pw] kt pt] (.Tuple [a, b, c, d] k2 pt2) X.env = pure none) :
    PS X (.Assign [.Tuple [.Name x px, .Name y py, .Name z pz, .Name w pw] kt pt] (.Tuple [a, b, c, d] k2 pt2) pos) (tS X pr (sPar pr [i, j, l, m] f)) := by
  have p1 := pg_name (X := X) (pos := px) hN hi (.inl hx) (.inr hx)
  have p2 := pg_name (X := X) (pos := py) hN hj (.inl hy) (.inr hy)
  have p3 := pg_name (X := X) (pos := pz) hN hl (.inl hz) (.inr hz)
  have p4 := pg_name (X := X) (pos := pw) hN hm (.inl hww) (.inr hww)
  refine ⟨fun pins s σ H Dd I hq => (ps_asg (pe_tup ha) (pg_tup (n := 4) hc (pgs_cons p1 (pgs_cons p2 (pgs_cons p3 (pgs_cons p4 pgs_nil))))) rfl hw).run pins s σ H Dd I ?_⟩
  obtain ⟨c, E, ρ, ps, ρ1, hK, hR, h1, h2⟩ := par_read_tup hq
  refine ⟨c, E, ρ, ps, ρ1, hK, hR, h1, fun zs as H1 p => ?_⟩
  obtain ⟨l, n⟩ := h2 zs as H1 p
  match zs, l, n with
  | [v1, v2, v3, v4], _, n => exact ⟨by show 4 ≤ sizeLine; decide, fun q hq => ⟨q, [v1, v2, v3, v4], rfl, .inl (.inl upd_same), rfl, v1, _, rfl, v2, _, rfl, v3, _, rfl, v4, _, rfl, rfl, n q hq⟩⟩
/-- two names, three names, the tuple made and taken apart -/
theorem zs_par2t {i j : Nat} {x y : Str} {a b : Expr} {f : MAs} {pr : List Nat} {px py pt : Pos} {kt k2 : Nat} {pt2 pos : Pos} (hc : X.calm = true) (p1 : PG X (.Name x px) (gName i)) (p2 : PG X (.Name y py) (gName j)) (ha : PA X [a, b] (tAs X f))
    (hw : swappedStores [.Tuple [.Name x px, .Name y py] kt pt] (.Tuple [a, b] k2 pt2) X.env = pure none) :
    PS X (.Assign [.Tuple [.Name x px, .Name y py] kt pt] (.Tuple [a, b] k2 pt2) pos) (tS X pr (sPar pr [i, j] f)) := by
  refine ⟨fun pins s σ H Dd I hq => (ps_asg (pe_tup ha) (pg_tup (n := 2) hc (pgs_cons p1 (pgs_cons p2 pgs_nil))) rfl hw).run pins s σ H Dd I ?_⟩
  obtain ⟨c, E, ρ, ps, ρ1, hK, hR, h1, h2⟩ := par_read_tup hq
  refine ⟨c, E, ρ, ps, ρ1, hK, hR, h1, fun zs as H1 p => ?_⟩
  obtain ⟨l, n⟩ := h2 zs as H1 p
  match zs, l, n with
  | [v1, v2], _, n => exact ⟨by show 2 ≤ sizeLine; decide, fun q hq => ⟨q, [v1, v2], rfl, .inl (.inl upd_same), rfl, v1, _, rfl, v2, _, rfl, rfl, n q hq⟩⟩
theorem zs_par3t {i j l : Nat} {x y z : Str} {a b c : Expr} {f : MAs} {pr : List Nat} {px py pz pt : Pos} {kt k2 : Nat} {pt2 pos : Pos} (hc : X.calm = true) (p1 : PG X (.Name x px) (gName i)) (p2 : PG X (.Name y py) (gName j)) (p3 : PG X (.Name z pz) (gName l)) (ha : PA X [a, b, c] (tAs X f))
    (hw : swappedStores [.Tuple [.Name x px, .Name y py, .Name z pz] kt pt] (.Tuple [a, b, c] k2 pt2) X.env = pure none) :
    PS X (.Assign [.Tuple [.Name x px, .Name y py, .Name z pz] kt pt] (.Tuple [a, b, c] k2 pt2) pos) (tS X pr (sPar pr [i, j, l] f)) := by
  refine ⟨fun pins s σ H Dd I hq => (ps_asg (pe_tup ha) (pg_tup (n := 3) hc (pgs_cons p1 (pgs_cons p2 (pgs_cons p3 pgs_nil)))) rfl hw).run pins s σ H Dd I ?_⟩
  obtain ⟨c, E, ρ, ps, ρ1, hK, hR, h1, h2⟩ := par_read_tup hq
  refine ⟨c, E, ρ, ps, ρ1, hK, hR, h1, fun zs as H1 p => ?_⟩
  obtain ⟨l, n⟩ := h2 zs as H1 p
  match zs, l, n with
  | [v1, v2, v3], _, n => exact ⟨by show 3 ≤ sizeLine; decide, fun q hq => ⟨q, [v1, v2, v3], rfl, .inl (.inl upd_same), rfl, v1, _, rfl, v2, _, rfl, v3, _, rfl, rfl, n q hq⟩⟩
end

/-! ## list(range(..)), tuple(range(..)) -/
def mkRg (lst : Bool) (a b : Int) : Option RV := if in62 a && in62 b && szb (b - a).toNat then some (if lst then .o (.list (upTo a (b - a).toNat)) else .v (.tuple (upTo a (b - a).toNat))) else none
def eRg1 (lst : Bool) (fa : ME) : ME := fun ρ => (fa ρ).bind fun r => (asI r.1).bind fun n => (mkRg lst 0 n).bind fun z => some (z, r.2)
def eRg2 (lst : Bool) (fa fb : ME) : ME := fun ρ => (fa ρ).bind fun r => (asI r.1).bind fun m => (fb r.2).bind fun s => (asI s.1).bind fun n => (mkRg lst m n).bind fun z => some (z, s.2)
theorem reps_map {K : PySem.W.Frag} {H : Hp} {O : AS} {f : Nat → D} {g : Nat → V} (h : ∀ i, Rep K H O (f i) (g i)) : ∀ l : List Nat, Reps K H O (l.map f) (l.map g)
  | [] => .nil
  | i :: l => .cons (h i) (reps_map h l)
theorem reps_rg {K : PySem.W.Frag} {H : Hp} {O : AS} {a b : Int} : Reps K H O (upTo a (b - a).toNat) (rgV a b) := reps_map (fun i => .int _) _
section
variable {X : Cx} {a b : Expr} {fa fb : ME} {p p2 pos pos2 : Pos}
theorem int_read {c : Cn} {E : AS} {ρ ρ1 : Rho} {σ : L2.St} {H H1 : Hp} {z : V} {rv : RV} {i : Int} (h : asI rv = some i) (P : PostE c E ρ σ H ρ1 H1 rv z) : z = .int i ∧ Stp ρ σ H ρ1 σ H1 ∧ R c E ρ1 σ H1 := by
  have e := asI_ok h
  subst e
  obtain ⟨s1, r1, p1⟩ := P.v
  cases p1
  exact ⟨rfl, s1, r1⟩
theorem rg_end {lst : Bool} {c : Cn} {E : AS} {ρ ρ1 : Rho} {σ : L2.St} {H H1 : Hp} {m n : Int} {rv : RV} {Q : VK} (s1 : Stp ρ σ H ρ1 σ H1) (R1 : R c E ρ1 σ H1) (h : mkRg lst m n = some rv) (q : ∀ z H', PostE c E ρ σ H ρ1 H' rv z → Q z H') :
    RgOk m n ∧ ∀ x, H1 x = none → Q (.ref x) (upd H1 x (if lst then .lst (rgV m n) else .tup (rgV m n))) := by
  unfold mkRg at h
  split at h
  · rename_i hc
    simp only [Bool.and_eq_true] at hc
    obtain ⟨⟨c1, c2⟩, c3⟩ := hc
    obtain ⟨i1, i2⟩ := in62_ok c1
    obtain ⟨i3, i4⟩ := in62_ok c2
    cases h
    refine ⟨⟨i1, i2, i3, i4, of_decide_eq_true c3⟩, fun x nx => ?_⟩
    cases lst with
    | true => exact q _ _ (ResB.post s1 R1 (resLst reps_rg nx))
    | false => exact q _ _ (ResB.post s1 R1 (resTup (oe_there R1) reps_rg nx))
  · cases h
theorem rg1_read {lst : Bool} {σ : L2.St} {H : Hp} {Q : VK} (hq : tE X (eRg1 lst fa) σ H Q) : tRg1 (tE X fa) σ H fun m n H1 => RgOk m n ∧ ∀ x, H1 x = none → Q (.ref x) (upd H1 x (if lst then .lst (rgV m n) else .tup (rgV m n))) := by
  obtain ⟨c, E, ρ, rv, ρ', hK, hR, hf, q⟩ := hq
  obtain ⟨⟨r1, ρ1⟩, h1, hf⟩ := bindS hf
  obtain ⟨n, h2, hf⟩ := bindS hf
  obtain ⟨z, h3, hf⟩ := bindS hf
  cases hf
  refine ⟨c, E, ρ, r1, ρ1, hK, hR, h1, fun z H1 P1 => ?_⟩
  obtain ⟨rfl, s1, R1⟩ := int_read h2 P1
  exact ⟨n, rfl, rg_end s1 R1 h3 q⟩
theorem rg2_read {lst : Bool} {σ : L2.St} {H : Hp} {Q : VK} (hq : tE X (eRg2 lst fa fb) σ H Q) : tRg2 (tE X fa) (tE X fb) σ H fun m n H1 => RgOk m n ∧ ∀ x, H1 x = none → Q (.ref x) (upd H1 x (if lst then .lst (rgV m n) else .tup (rgV m n))) := by
  obtain ⟨c, E, ρ, rv, ρ', hK, hR, hf, q⟩ := hq
  obtain ⟨⟨r1, ρ1⟩, h1, hf⟩ := bindS hf
  obtain ⟨m, h2, hf⟩ := bindS hf
  obtain ⟨⟨r2, ρ2⟩, h3, hf⟩ := bindS hf
  obtain ⟨n, h4, hf⟩ := bindS hf
  obtain ⟨z, h5, hf⟩ := bindS hf
  cases hf
  refine ⟨c, E, ρ, r1, ρ1, hK, hR, h1, fun z H1 P1 => ?_⟩
  obtain ⟨rfl, s1, R1⟩ := int_read h2 P1
  refine ⟨c, E, ρ1, r2, _, hK, R1, h3, fun z H2 P2 => ?_⟩
  obtain ⟨rfl, s2, R2⟩ := int_read h4 P2
  exact ⟨m, n, rfl, rfl, rg_end (s1.trans s2) R2 h5 q⟩
theorem zpe_rg1 {lst : Bool} {T : Str} (hT : T = (if lst then ("list" : Str) else "tuple")) (hc : X.calm = true) (hg : Gl X T) (hm : X.mg T = none) (hg2 : Gl X "range") (hm2 : X.mg "range" = none) (ha : PE X a (tE X fa)) (na : starEach [a] X.env = (false, eval a X.env) :: starEach [] X.env) :
    PE X (.Call (.Name T p) [.Call (.Name "range" p2) [a] [] pos2] [] pos) (tE X (eRg1 lst fa)) := by
  cases lst with
  | true => subst hT; exact ⟨fun pins s σ H Q I hq => (pe_listRg hc hg hm (prg_1 hg2 hm2 ha na) rfl).run pins s σ H Q I (rg1_read hq)⟩
  | false => subst hT; exact ⟨fun pins s σ H Q I hq => (pe_tupRg hc hg hm (prg_1 hg2 hm2 ha na) rfl).run pins s σ H Q I (rg1_read hq)⟩
theorem zpe_rg2 {lst : Bool} {T : Str} (hT : T = (if lst then ("list" : Str) else "tuple")) (hc : X.calm = true) (hg : Gl X T) (hm : X.mg T = none) (hg2 : Gl X "range") (hm2 : X.mg "range" = none) (ha : PE X a (tE X fa)) (hb : PE X b (tE X fb))
    (na : starEach [a, b] X.env = (false, eval a X.env) :: starEach [b] X.env) (nb : starEach [b] X.env = (false, eval b X.env) :: starEach [] X.env) (hp : (backTo pos2 (starEach [b] X.env)).any (·.1) = false) :
    PE X (.Call (.Name T p) [.Call (.Name "range" p2) [a, b] [] pos2] [] pos) (tE X (eRg2 lst fa fb)) := by
  cases lst with
  | true => subst hT; exact ⟨fun pins s σ H Q I hq => (pe_listRg hc hg hm (prg_2 hg2 hm2 ha hb na nb hp) rfl).run pins s σ H Q I (rg2_read hq)⟩
  | false => subst hT; exact ⟨fun pins s σ H Q I hq => (pe_tupRg hc hg hm (prg_2 hg2 hm2 ha hb na nb hp) rfl).run pins s σ H Q I (rg2_read hq)⟩
end

/-! ## calls with keywords -/
def permL {α : Type} (xs : List α) : List Nat → Option (List α)
  | [] => some []
  | i :: is => xs[i]?.bind fun x => (permL xs is).bind fun r => some (x :: r)
def eCallK (F : FnS) (n m : Nat) (pm : List Nat) (fs gs : MOs) : ME := fun ρ => (fs ρ).bind fun r => (tvs r.1).bind fun ds => (gs r.2).bind fun s => (tvs s.1).bind fun es => (permL (ds ++ es) pm).bind fun xs =>
  if F.mask.all (fun b => !b) && decide (xs.length = F.mask.length) && decide (ds.length = n) && decide (es.length = m) then (F.run xs).bind fun w => some (w.1, s.2) else none
theorem arg_plain {K : PySem.W.Frag} {H : Hp} {O : AS} : ∀ {mask : List Bool} {ds : List D} {vs : List V}, (mask.all fun b => !b) = true → ds.length = mask.length → Reps K H O ds vs → ArgRel K H O mask ds vs []
  | [], [], _, _, _, .nil => by unfold ArgRel; exact True.intro
  | false :: ms, d :: ds, _, h, l, .cons r t => ⟨r, arg_plain (by simpa using h) (by simpa using l) t⟩
  | true :: ms, _, _, h, _, _ => by simp at h
  | [], _ :: _, _, _, l, _ => by simp at l
  | _ :: _, [], _, _, l, _ => by simp at l
theorem permL_map {K : PySem.W.Frag} {H : Hp} {O : AS} {ds : List D} {vs : List V} (r : Reps K H O ds vs) : ∀ {pm : List Nat} {xs : List D}, permL ds pm = some xs → ∃ ys, permL vs pm = some ys ∧ Reps K H O xs ys
  | [], xs, h => by cases h; exact ⟨[], rfl, .nil⟩
  | i :: pm, xs, h => by
    obtain ⟨x, e1, h⟩ := bindS h
    obtain ⟨t, e2, h⟩ := bindS h
    cases h
    obtain ⟨y, f1, f2⟩ := r.get e1
    obtain ⟨ys, f3, f4⟩ := permL_map r e2
    exact ⟨y :: ys, by unfold permL; rw [f1, f3]; rfl, .cons f2 f4⟩
theorem permL_rel {vs : List V} {us : List Value} (r : Vals vs us) : ∀ {pm : List Nat}, Vals ((permL vs pm).getD []) ((permL us pm).getD [])
  | [] => .nil
  | i :: pm => by
    have ih := permL_rel r (pm := pm)
    unfold permL
    cases hv : vs[i]? with
    | none =>
      have : us[i]? = none := by
        rw [List.getElem?_eq_none_iff] at hv ⊢
        rw [← r.length]; exact hv
      rw [this]; exact .nil
    | some v =>
      obtain ⟨u, hu, ru⟩ := r.get hv
      rw [hu]
      show Vals (((permL vs pm).bind fun r => some (v :: r)).getD []) (((permL us pm).bind fun r => some (u :: r)).getD [])
      have both : ∀ {α β : Type} {l : List α} {m : List β}, l.length = m.length → ∀ pm : List Nat, (permL l pm).isSome = (permL m pm).isSome := by
        intro α β l m hl pm
        induction pm with
        | nil => rfl
        | cons j pm ih =>
          unfold permL
          by_cases hj : j < l.length
          · rw [List.getElem?_eq_getElem hj, List.getElem?_eq_getElem (by omega)]
            show ((permL l pm).bind _).isSome = ((permL m pm).bind _).isSome
            cases h1 : permL l pm <;> cases h2 : permL m pm <;> rw [h1, h2] at ih <;> first | rfl | cases ih
          · rw [List.getElem?_eq_none (by omega), List.getElem?_eq_none (by omega)]; rfl
      have b := both (r.length) pm
      cases h1 : permL vs pm with
      | none =>
        cases h2 : permL us pm with
        | none => exact .nil
        | some y => rw [h1, h2] at b; cases b
      | some x =>
        cases h2 : permL us pm with
        | none => rw [h1, h2] at b; cases b
        | some y => rw [h1, h2] at ih; exact .cons ru ih
/-- a def's keywords: their places -/
structure KwOk (K : PySem.W.Frag) (fd : FuncData) (ps ks : List Str) (n : Nat) (pm : List Nat) : Prop where
  to : ∀ (s : Shared) (us ws xs : List Value), K.In s.heap → us.length = n → permL (us ++ ws) pm = some xs → xs.length = ps.length → ws.length = ks.length → BindsTo s fd ⟨us, ks.zip ws⟩ (ps.zip xs)
section
variable {X : Cx} {e : Expr} {es : List Expr} {kws : List Keyword} {f : ME} {fs gs : MOs} {pos p kpos : Pos} {nm : Option Str}
theorem zpk_nil : PK X [] (tOps X osNil) := by
  refine ⟨fun pos pins s σ H Q I hq => pk_nil.run pos pins s σ H Q I ?_⟩
  obtain ⟨c, E, ρ, p, ρ', hK, hR, hf, q⟩ := hq
  cases hf
  exact q [] H ⟨Stp.rfl, hR, True.intro⟩
theorem zpk_cons {fa : MO} (ha : PE X e (tOpd X fa)) (hr : PK X kws (tOps X fs)) : PK X (⟨nm, e, kpos⟩ :: kws) (tOps X (osCons fa fs)) := by
  refine ⟨fun pos pins s σ H Q I hq => (pk_cons ha hr).run pos pins s σ H Q I ?_⟩
  obtain ⟨c, E, ρ, p, ρ', hK, hR, hf, q⟩ := hq
  obtain ⟨⟨p1, ρ1⟩, h1, hf⟩ := bindS hf
  obtain ⟨⟨p2, ρ2⟩, h2, hf⟩ := bindS hf
  cases hf
  refine ⟨c, E, ρ, p1, ρ1, hK, hR, h1, fun x H1 P1 => ⟨c, E, ρ1, p2, ρ2, hK, P1.2.1, h2, fun xs H2 P2 => q _ H2 ⟨P1.1.trans P2.1, P2.2.1, ?_, P2.2.2⟩⟩⟩
  obtain ⟨_, _, P3⟩ := P1
  cases p1 with
  | tv d => exact Rep.mono P2.1.keeps P3
  | sl i => exact P3

theorem callK_read {F : FnS} {n m : Nat} {pm : List Nat} {σ : L2.St} {H : Hp} {Q : VK} (hq : tE X (eCallK F n m pm fs gs) σ H Q) :
    tOps X fs σ H fun vs H1 => tOps X gs σ H1 fun zs H2 => vs.length = n ∧ zs.length = m ∧ ∃ ys, permL (vs ++ zs) pm = some ys ∧ spF X.K F ys H2 Q E0 := by
  obtain ⟨c, E, ρ, rv, ρ', hK, hR, hf, q⟩ := hq
  obtain ⟨⟨ps, ρ1⟩, h1, hf⟩ := bindS hf
  obtain ⟨ds, h2, hf⟩ := bindS hf
  obtain ⟨⟨ps2, ρ2⟩, h3, hf⟩ := bindS hf
  obtain ⟨es2, h4, hf⟩ := bindS hf
  obtain ⟨xs, h5, hf⟩ := bindS hf
  split at hf
  · rename_i hc
    simp only [Bool.and_eq_true, decide_eq_true_eq] at hc
    obtain ⟨⟨⟨c1, c2⟩, c3⟩, c4⟩ := hc
    obtain ⟨⟨rw', outs⟩, h6, hf⟩ := bindS hf
    cases hf
    refine ⟨c, E, ρ, ps, ρ1, hK, hR, h1, fun vs H1 P1 => ⟨c, E, ρ1, ps2, ρ2, hK, P1.2.1, h3, fun zs H2 P2 => ?_⟩⟩
    have r1 := (tvs_ok P1.2.1 h2 P1.2.2).mono P2.1.keeps
    have r2 := tvs_ok P2.2.1 h4 P2.2.2
    obtain ⟨ys, e1, e2⟩ := permL_map (r1.append r2) h5
    refine ⟨by rw [← r1.length]; exact c3, by rw [← r2.length]; exact c4, ys, e1, ?_⟩
    refine ⟨OE ρ2 σ E, xs, [], _, outs, by rw [← e2.length]; exact c2, h6, oe_there P2.2.1, by rw [← hK]; exact arg_plain c1 c2 e2, List.nodup_nil, (fun a h => by cases h), fun z H' ⟨p1, p2, p3⟩ => q z H' ?_⟩
    have g : Grow H2 H' := fun b o hb => p1 b o hb (fun h => by cases h)
    have rb : ResB c.K H2 (OE ρ2 σ E) rw' H' z := by
      rw [hK]
      refine ⟨g, ?_⟩
      cases rw' with
      | v d => exact p3.1
      | o d => obtain ⟨a, e, n, o, _⟩ := p3; exact ⟨a, e, n, o⟩
    exact ResB.post (P1.1.trans P2.1) P2.2.1 rb
  · cases hf
theorem fnk_run {F : FnS} {k n : Nat} {f0 : Addr} {fd : FuncData} {ps ks : List Str} {pm : List Nat} {pins : List (Addr × Obj)} {s : Shared} {σ : L2.St} {H : Hp} {Q : VK} {us ws : List Value} {vs zs ys : List V} (Fo : FnOk X.prog X.w X.K X.mg X.base CX0 k f0 fd ps (spF X.K F)) (hr : Room k X.A) (hb : KwOk X.K fd ps ks n pm)
    (I : Inv X pins σ H s) (r : Vals vs us) (rz : Vals zs ws) (l1 : vs.length = n) (l2 : zs.length = ks.length) (e : permL (vs ++ zs) pm = some ys) (h : spF X.K F ys H Q E0) : wpAny (model X.prog X.w) X.A (call (.ref f0) us (ks.zip ws)) (EP X pins σ Q) X.xe s := by
  have rr : Vals (vs ++ zs) (us ++ ws) := r.append rz
  have r2 := permL_rel rr (pm := pm)
  rw [e] at r2
  have r2 : Vals ys ((permL (us ++ ws) pm).getD []) := r2
  have hl : ys.length = ps.length := Fo.len _ _ _ _ h
  have e2 : permL (us ++ ws) pm = some ((permL (us ++ ws) pm).getD []) := by
    cases q : permL (us ++ ws) pm with
    | some x => rfl
    | none =>
      rw [q] at r2
      cases r2
      cases pm with
      | nil => cases q
      | cons i pm => 
        unfold permL at e
        obtain ⟨x, _, e⟩ := bindS e
        obtain ⟨t, _, e⟩ := bindS e
        cases e
  refine wpAny_call (codeAny_mono (Fo.run X.A X.stack s H ⟨us, ks.zip ws⟩ _ ys Q E0 hr I.env0 (hb.to s us ws _ I.kIn (by rw [← r.length]; exact l1) e2 (by rw [← r2.length]; exact hl) (by rw [← rz.length]; exact l2)) r2 h) fun r s' hq => ?_)
  cases r with
  | error e => exact pass0 pins σ H s e s' I hq
  | ok fl =>
    cases fl with
    | ret u => exact I.after hq
    | next => exact False.elim hq
    | brk => exact False.elim hq
    | cont => exact False.elim hq
theorem zpe_callK0 {F : FnS} {k : Nat} {x : Str} {f0 : Addr} {fd : FuncData} {ps ks : List Str} {pm : List Nat} (Fo : FnOk X.prog X.w X.K X.mg X.base CX0 k f0 fd ps (spF X.K F)) (hr : Room k X.A) (hg : Gl X x) (hm : X.mg x = some (.ref f0)) (hk : PySem.W.keepIn X.K (.ref f0) = true) (hb : KwOk X.K fd ps ks 0 pm)
    (hkw : PK X kws (tOps X gs)) (hall : (backToKw pos (keywordEach kws X.env)).all (·.1.isSome) = true) (hks : (backToKw pos (keywordEach kws X.env)).filterMap (·.1) = ks) (hdb : (x == ("__debug__" : Str)) = false)
    (hpl : (backToKw pos (keywordEach kws X.env)).any (·.1.isNone) = false) : PE X (.Call (.Name x p) [] kws pos) (tE X (eCallK F 0 ks.length pm osNil gs)) := by
  refine ⟨fun pins s σ H Q I hq => ?_⟩
  obtain ⟨c, E, ρ, ps1, ρ1, hK, hR, h1, h2⟩ := callK_read hq
  cases h1
  refine wpAny_Call_Name_kw (ld_glob I hg hm ?_ hdb)
  refine PySem.W.callWith_KW0 (h₀ := X.base) I.ok.mod.kin hk hall (thn (hkw.run pos pins s σ H _ I (h2 [] H ⟨Stp.rfl, hR, True.intro⟩)) fun ws s2 ⟨zs, H2, I2, rz, q2⟩ => ⟨I2.kIn, ?_⟩) (by rw [hpl]; rfl)
  rw [hks]
  obtain ⟨l1, l2, ys, e, h⟩ := q2
  exact fnk_run (us := []) Fo hr hb I2 .nil rz l1 l2 e h
theorem zpe_callK {F : FnS} {k n : Nat} {x : Str} {f0 : Addr} {fd : FuncData} {ps ks : List Str} {pm : List Nat} (Fo : FnOk X.prog X.w X.K X.mg X.base CX0 k f0 fd ps (spF X.K F)) (hr : Room k X.A) (hg : Gl X x) (hm : X.mg x = some (.ref f0)) (hk : PySem.W.keepIn X.K (.ref f0) = true) (hb : KwOk X.K fd ps ks n pm)
    (ha : PA X (e :: es) (tOps X fs)) (hkw : PK X kws (tOps X gs)) (hall : (backToKw pos (keywordEach kws X.env)).all (·.1.isSome) = true) (hks : (backToKw pos (keywordEach kws X.env)).filterMap (·.1) = ks) (hdb : (x == ("__debug__" : Str)) = false)
    (he : starEach (e :: es) X.env = (false, eval e X.env) :: starEach es X.env) (hp : (backTo pos (starEach (e :: es) X.env)).any (·.1) = false)
    (hpl : (backToKw pos (keywordEach kws X.env)).any (·.1.isNone) = false) : PE X (.Call (.Name x p) (e :: es) kws pos) (tE X (eCallK F n ks.length pm fs gs)) := by
  refine ⟨fun pins s σ H Q I hq => ?_⟩
  have hq := callK_read hq
  refine wpAny_Call_Name_kw (ld_glob I hg hm ?_ hdb)
  refine PySem.W.callWith_KW (h₀ := X.base) I.ok.mod.kin hk hall (thn (ha.run pos pins s σ H _ I hq) fun us s1 ⟨vs, H1, I1, r, q⟩ => ?_) (by rw [hpl, hp]; rfl) he
  refine thn (hkw.run pos pins s1 σ H1 _ I1 q) fun ws s2 ⟨zs, H2, I2, rz, q2⟩ => ⟨I2.kIn, ?_⟩
  rw [hks]
  obtain ⟨l1, l2, ys, e, h⟩ := q2
  exact fnk_run Fo hr hb I2 r rz l1 l2 e h
end

/-! ## a test that chooses between two -/
def bIf (t f g : MB) : MB := fun ρ => (t ρ).bind fun r => if r.1 then f r.2 else g r.2
theorem zpt_if {X : Cx} {t a b : Expr} {pos : Pos} {bt bf bg : MB} (ht : PT X t (tT X bt)) (ha : PT X a (tT X bf)) (hb : PT X b (tT X bg)) : PT X (.IfExp t a b pos) (tT X (bIf bt bf bg)) := by
  refine ⟨fun pins s σ H Q I hq => ?_⟩
  obtain ⟨c, E, ρ, k, ρ', hK, hR, hf, q⟩ := hq
  obtain ⟨⟨k1, ρ1⟩, h1, hf⟩ := bindS hf
  have go : tT X bt σ H (fun k2 H1 => if k2 = true then tT X bf σ H1 Q else tT X bg σ H1 Q) := by
    refine ⟨c, E, ρ, k1, ρ1, hK, hR, h1, fun H1 P1 => ?_⟩
    cases k1 with
    | true => exact iteT ⟨c, E, ρ1, k, ρ', hK, P1.2, hf, fun H2 P2 => q H2 ⟨P1.1.trans P2.1, P2.2⟩⟩
    | false => exact iteF ⟨c, E, ρ1, k, ρ', hK, P1.2, hf, fun H2 P2 => q H2 ⟨P1.1.trans P2.1, P2.2⟩⟩
  refine isTrue_IfExp (thn (ht.run pins s σ H _ I go) fun k2 s1 e => ?_)
  obtain ⟨H1, I1, q1⟩ := e
  cases k2 with
  | true => exact ha.run pins s1 σ H1 Q I1 (by simpa using q1)
  | false => exact hb.run pins s1 σ H1 Q I1 (by simpa using q1)
end Z
namespace Z
open PySem PySem.Spec L2
open PyProof.Rows hiding St

/-! ## x[::-1] -/
def revD : D → Option RV
  | .list ds => some (.o (.list ds.reverse))
  | .tuple ds => some (.v (.tuple ds.reverse))
  | _ => none
theorem Reps.reverse {K : PySem.W.Frag} {H : Hp} {O : AS} {ds : List D} {vs : List V} (r : Reps K H O ds vs) : Reps K H O ds.reverse vs.reverse := by
  have go : ∀ (ds : List D) (vs : List V), Reps K H O ds vs → Reps K H O ds.reverse vs.reverse := by
    intro ds
    induction ds with
    | nil => intro vs r; cases r; exact .nil
    | cons d ds ih =>
      intro vs r
      cases r with
      | cons a t =>
        rw [List.reverse_cons, List.reverse_cons]
        exact (ih _ t).append (.cons a .nil)
  exact go ds vs r
theorem adjust_rev (n : Nat) : Builtin.Slice.sliceAdjust none none (-1) (n : Int) = ((n : Int) - 1, -1) := by
  unfold Builtin.Slice.sliceAdjust
  simp
theorem places_rev (n : Nat) : Builtin.Slice.slicePlaces ((n : Int) - 1) (-1) (-1) = n := by
  unfold Builtin.Slice.slicePlaces
  have h1 : ¬ ((-1 : Int) > 0) := by omega
  simp only [h1, if_false]
  rw [show (- -1 : Int) = 1 by decide, Int.ediv_one]
  split <;> omega
section
variable {prog : Program} {w : World} {A : Around} {E : Value → Shared → Prop} {s : Shared}
theorem sliceApplied_rev {sl : Addr} {vl vu vk : Value} {n : Nat} {Q : Int × Int × Nat → Shared → Prop} (hs : s.heap.IsSliceOf sl vl vu vk) (pl : IsPart vl none) (pu : IsPart vu none) (pk : IsPart vk (some (-1)))
    (h : Q ((n : Int) - 1, -1, n) s) : wpAny (model prog w) A (Builtin.Slice.sliceApplied (.ref sl) (pure (n : Int))) Q E s := by
  obtain ⟨os, hos, hcs, hds⟩ := id hs
  unfold Builtin.Slice.sliceApplied Builtin.Slice.sliceFields
  refine wpAny_bind (wpAny_bind (wpAny_field hos hds (x := vl) rfl (wpAny_bind (wpAny_field hos hds (x := vu) rfl (wpAny_bind (wpAny_field hos hds (x := vk) rfl (wpAny_pure ?_)))))))
  refine wpAny_bind (HT.slicePart_ pk ?_)
  show wpAny _ _ (if ((-1 : Int) == 0) = true then _ else _) _ _ s
  rw [if_neg (by decide)]
  refine wpAny_bind (HT.slicePart_ pl (wpAny_bind (HT.slicePart_ pu (wpAny_bind (wpAny_pure ?_)))))
  show wpAny _ _ (match Builtin.Slice.sliceAdjust none none (-1) (n : Int) with | (lo, hi) => pure (lo, (-1 : Int), Builtin.Slice.slicePlaces lo hi (-1))) _ _ s
  rw [adjust_rev n]
  show wpAny _ _ (pure ((n : Int) - 1, (-1 : Int), Builtin.Slice.slicePlaces ((n : Int) - 1) (-1) (-1))) _ _ s
  rw [places_rev]
  exact wpAny_pure h
theorem pick_rev (xs : Array Value) : ((List.range xs.size).filterMap fun (m : Nat) => xs[((xs.size : Int) - 1 + (m : Int) * (-1)).toNat]?).toArray = xs.toList.reverse.toArray := by
  have e : (fun (m : Nat) => xs[((xs.size : Int) - 1 + (m : Int) * (-1)).toNat]?) = (fun k => xs[k]?) ∘ fun m => xs.size - 1 - m := by
    funext m
    have : ((xs.size : Int) - 1 + (m : Int) * (-1)).toNat = xs.size - 1 - m := by omega
    rw [this]; rfl
  rw [e, ← List.filterMap_map, PySem.W.krv_range, List.filterMap_reverse, PySem.W.krv_all]
theorem getItem_tuple_rev {t sl : Addr} {items : Array Value} {vl vu vk : Value} {Q : Value → Shared → Prop} (ht : IsTup s.heap t items) (hs : s.heap.IsSliceOf sl vl vu vk) (pl : IsPart vl none) (pu : IsPart vu none) (pk : IsPart vk (some (-1)))
    (h : Q (.ref s.heap.objs.size) { s with heap := s.heap.push { cls := .type "tuple", data := .seq items.toList.reverse.toArray } })
    (hsz : items.size ≤ sizeLine) : wpAny (model prog w) A (getItem (.ref t) (.ref sl)) Q E s := by
  have htake : sizeOk (.seq items.toList.reverse.toArray) := by
    show items.toList.reverse.toArray.size ≤ sizeLine
    rw [List.size_toArray, List.length_reverse, Array.length_toList]
    omega
  obtain ⟨os, hos, hcs, hds⟩ := id hs
  have hTs : s.TypeIs (.ref sl) "slice" := ⟨os, hos, hcs⟩
  unfold getItem
  try with_reducible refine wpAny_holding ?_
  first | refine wpAny_bind (wpAny_pure ?_) | skip
  refine wpAny_bind (wpAny_sequenceKey ht.typeIs (by decide) ?_)
  refine wpAny_bind (wpAny_callSpecial?_slot (name := Str.ofString "__getitem__") ht.typeIs PyProof.Rows.slot_tuple_getitem
    (wpAny_call_entry PyProof.Rows.slot_tuple_getitem ht.typeIs entry_tuple_getitem ?_ (args_tuple_getitem _ _)))
  show wpAny _ _ (Builtin.Tuple.tupleItemsOf (.ref t) >>= _) _ _ s
  refine wpAny_bind (tupleItemsOf_ ht ?_)
  refine wpAny_bind (wpAny_typeOf hTs ?_)
  rw [if_pos (by decide)]
  refine wpAny_bind (sliceApplied_rev hs pl pu pk ?_)
  have hno : ¬ ((((items.size : Int) - 1) == 0 && (-1 : Int) == 1 && items.size == items.size) = true) := by
    intro q
    rw [Bool.and_eq_true, Bool.and_eq_true] at q
    have q1 : (-1 : Int) = 1 := eq_of_beq q.1.2
    omega
  show wpAny _ _ (if (((items.size : Int) - 1) == 0 && (-1 : Int) == 1 && items.size == items.size) = true then _ else _) _ _ s
  rw [if_neg hno, pick_rev]
  first
    | exact wpAny_bind (m := Builtin.Tuple.tupleExact _) (wpAny_newObj_type (wpAny_pure ⟨_, rfl, wpAny_pure h⟩) htake)
    | exact wpAny_bind (m := Builtin.Tuple.tupleExact _) (wpAny_newObj_type (wpAny_bind (wpAny_pure (wpAny_pure ⟨_, rfl, wpAny_pure h⟩))) htake)
    | exact wpAny_bind (wpAny_bind (m := Builtin.Tuple.tupleExact _) (wpAny_newObj_type (wpAny_pure (wpAny_pure ⟨_, rfl, wpAny_pure h⟩)) htake))
    | exact wpAny_bind (wpAny_bind (m := Builtin.Tuple.tupleExact _) (wpAny_newObj_type (wpAny_pure ⟨_, rfl, wpAny_pure h⟩) htake))
end
section
variable {X : Cx} {a : Expr} {fa : MO}
theorem zpe_rev {k : Nat} {p1 p2 p3 pos : Pos} (he : PE X a (tOpd X fa)) : PE X (.Subscript a (.Slice none none (some (.UnaryOp .USub (.Constant (.int 1) k p1) p2)) p3) pos) (tE X (eOp1 revD fa)) := by
  refine ⟨fun pins s σ H Q I h => ?_⟩
  refine Subscript_ (thn (he.run pins s σ H _ I (op1_read h)) fun v s1 ⟨x, H1, I1, r1, q1⟩ => ?_)
  obtain ⟨O, d, rv, hO, td, hf, q⟩ := q1
  have hst : PO X (some (.UnaryOp .USub (.Constant (.int 1) k p1) p2)) (tPart (tUn (rU fun i => .int (-i)) (tC (.int 1)))) := po_some (pe_un un_neg pe_int)
  refine wpAny_Slice (thn (po_none.run pins s1 σ H1 (fun o H2 => o = none ∧ H2 = H1) I1 ⟨rfl, rfl⟩) fun vl s2 ⟨l, H2, I2, pl, el, e2⟩ => ?_)
  subst el e2
  refine thn (po_none.run pins s2 σ H2 (fun o H3 => o = none ∧ H3 = H2) I2 ⟨rfl, rfl⟩) fun vu s3 ⟨u, H3, I3, pu, eu, e3⟩ => ?_
  subst eu e3
  refine thn (hst.run pins s3 σ H3 (fun o H4 => o = some (-1) ∧ H4 = H3) I3 ⟨1, rfl, -1, rfl, rfl, rfl⟩) fun vs s4 ⟨o, H4, I4, ps, eo, e4⟩ => ?_
  subst eo e4
  have I5 : Inv X pins σ H4 { s4 with heap := s4.heap.push { cls := .type "slice", data := .fields #[vl, vu, vs] } } := I4.kept (t' := s4.toks) fun b ob q => Heap.get?_push_of_some _ q
  unfold revD at hf
  split at hf
  · rename_i ds
    cases hf
    obtain ⟨b, xs, rfl, hx, rx⟩ := td.list
    cases r1
    obtain ⟨its, r, ht, hz⟩ := I5.list hx
    have hlen := r.length
    show wpAny (model X.prog X.w) X.A (subscriptTail a (.Slice none none (some (.UnaryOp .USub (.Constant (.int 1) k p1) p2)) p3) (.ref b) (.ref s4.heap.objs.size)) (EP X pins σ Q) X.xe { s4 with heap := s4.heap.push { cls := .type "slice", data := .fields #[vl, vu, vs] } }
    refine tail_any (ops := [.ref b, .ref s4.heap.objs.size]) ht.isList.typeIs (PySem.slot_list_getitem.lookup) ?_ (by with_unfolding_all rfl)
    refine wpAny_getItem_list_slice ht.isList (Heap.IsSliceOf.new _ vl vu vs) pl pu ps (by decide) ?_ (by rw [List.size_toArray]; omega)
    rw [PySem.W.krv_pick]
    have fr := I5.hok.fresh (Nat.le_refl _)
    refine ⟨.ref _, _, I5.laid (t' := s4.toks) (o := .lst xs.reverse) (fun b ob q => Heap.get?_push_of_some _ q) (Nat.le_refl _) ?_, rfl, q _ _ (resLst rx.reverse fr)⟩
    exact ⟨by rw [List.length_reverse]; exact hz, _, 0, r.reverse, Heap.get?_push_size _ rfl⟩
  · rename_i ds
    cases hf
    obtain ⟨b, xs, rfl, hx, rx⟩ := td.tuple
    cases r1
    obtain ⟨its, r, ht, hz⟩ := I5.tuple hx
    have hlen := r.length
    show wpAny (model X.prog X.w) X.A (subscriptTail a (.Slice none none (some (.UnaryOp .USub (.Constant (.int 1) k p1) p2)) p3) (.ref b) (.ref s4.heap.objs.size)) (EP X pins σ Q) X.xe { s4 with heap := s4.heap.push { cls := .type "slice", data := .fields #[vl, vu, vs] } }
    refine tail_any (ops := [.ref b, .ref s4.heap.objs.size]) ht.typeIs PyProof.Rows.slot_tuple_getitem.lookup ?_ (by with_unfolding_all rfl)
    refine getItem_tuple_rev ht (Heap.IsSliceOf.new _ vl vu vs) pl pu ps ?_ (by rw [List.size_toArray]; omega)
    have fr := I5.hok.fresh (Nat.le_refl _)
    refine ⟨.ref _, _, I5.laid (t' := s4.toks) (o := .tup xs.reverse) (fun b ob q => Heap.get?_push_of_some _ q) (Nat.le_refl _) ?_, rfl, q _ _ (resTup hO rx.reverse fr)⟩
    exact ⟨by rw [List.length_reverse]; exact hz, _, r.reverse, IsTup.new _ _⟩
  · cases hf
end
/-! ## displays of dicts, of constants -/
def dcD (kvs : List (L2.Key × D)) : List (D × D) := kvs.map fun p => (kD p.1, p.2)
def eDic (kvs : List (L2.Key × D)) : ME := fun ρ => some (.o (.dict (dcD kvs)), ρ)
def vOf : D → V
  | .none => .non
  | .bool b => .bl b
  | .int i => .int i
  | .str s => .str s
  | _ => .non
def cCst : Const → Option D
  | .none => some .none
  | .bool b => some (.bool b)
  | .int i => some (.int i)
  | .str s => if PyData.strOk s then some (.str s) else none
  | _ => none
def kOf : Expr → Option L2.Key
  | .Constant (.str s) _ _ => some (.inr s)
  | .Constant (.int i) _ _ => some (.inl i)
  | _ => none
def dOf : Expr → Option D
  | .Constant k _ _ => cCst k
  | _ => none
def cDic : List (Option Expr) → List Expr → Option (List (L2.Key × D))
  | [], [] => some []
  | some k :: ks, v :: vs => (kOf k).bind fun k => (dOf v).bind fun d => (cDic ks vs).bind fun r => if r.all fun p => !decide (p.1 = k) then some ((k, d) :: r) else none
  | _, _ => none
theorem kOf_ok {X : Cx} {e : Expr} {k : L2.Key} (h : kOf e = some k) : PE X e (tC (kV k)) := by
  unfold kOf at h
  split at h
  · cases h; exact pe_str
  · cases h; exact pe_int
  · cases h
theorem dOf_ok {X : Cx} {e : Expr} {d : D} (h : dOf e = some d) : PE X e (tC (vOf d)) ∧ ∀ K H O, Rep K H O d (vOf d) := by
  unfold dOf cCst at h
  split at h
  · split at h
    · cases h; exact ⟨pe_non, fun _ _ _ => .non⟩
    · cases h; exact ⟨pe_bl, fun _ _ _ => .bl _⟩
    · cases h; exact ⟨pe_int, fun _ _ _ => .int _⟩
    · split at h
      · rename_i hs
        cases h; exact ⟨pe_str, fun _ _ _ => .str _ hs⟩
      · cases h
    · cases h
  · cases h
def dcV (kvs : List (L2.Key × D)) : List (L2.Key × V) := kvs.map fun p => (p.1, vOf p.2)
theorem pairs_const : ∀ (kvs : List (L2.Key × D)) (σ : L2.St) (H : Hp) (Q : List (V × V) → Hp → Prop), Q ((dcV kvs).map fun p => (kV p.1, p.2)) H → tPairs (kvs.map fun p => (tC (kV p.1), tC (vOf p.2))) σ H Q
  | [], σ, H, Q, h => h
  | p :: r, σ, H, Q, h => by
    show tPairs (r.map fun p => (tC (kV p.1), tC (vOf p.2))) σ H fun ps H3 => Q ((kV p.1, vOf p.2) :: ps) H3
    exact pairs_const r σ H _ h
theorem merge_new : ∀ (more kvs : List (L2.Key × V)), (∀ p ∈ more, ∀ q ∈ kvs, q.1 ≠ p.1) → more.Pairwise (fun p q => q.1 ≠ p.1) → mergeK kvs more = kvs ++ more
  | [], kvs, _, _ => by rw [List.append_nil]; rfl
  | p :: r, kvs, h, w => by
    obtain ⟨w1, w2⟩ := List.pairwise_cons.mp w
    have e : putK kvs p.1 p.2 = kvs ++ [p] := by
      unfold putK
      rw [if_neg]
      intro q
      obtain ⟨y, hy, e⟩ := List.any_eq_true.mp q
      exact h p List.mem_cons_self y hy (of_decide_eq_true e)
    show mergeK (putK kvs p.1 p.2) r = _
    rw [e, merge_new r _ (fun x hx q hq => ?_) w2, List.append_assoc]
    · rfl
    · rcases List.mem_append.mp hq with hq | hq
      · exact h x (List.mem_cons_of_mem _ hx) q hq
      · rw [List.mem_singleton.mp hq]; exact fun e => w1 x hx e.symm
theorem cDic_ok {X : Cx} {pos : Pos} : ∀ {ks : List (Option Expr)} {vs : List Expr} {kvs : List (L2.Key × D)}, cDic ks vs = some kvs →
    PPs X pos ks vs (kvs.map fun p => (tC (kV p.1), tC (vOf p.2))) ∧ ks.all (·.isSome) = true ∧ ks.length = vs.length ∧ ks.length = kvs.length ∧ (∀ p ∈ kvs, ∀ K H O, Rep K H O p.2 (vOf p.2)) ∧ (dcV kvs).Pairwise (fun p q => q.1 ≠ p.1)
  | [], [], kvs, h => by cases h; exact ⟨pps_nil, rfl, rfl, rfl, (fun p h => by cases h), .nil⟩
  | some k :: ks, v :: vs, kvs, h => by
    unfold cDic at h
    obtain ⟨k', h1, h⟩ := bindS h
    obtain ⟨d, h2, h⟩ := bindS h
    obtain ⟨r, h3, h⟩ := bindS h
    split at h
    · rename_i hn
      cases h
      obtain ⟨i1, i2, i3, i4, i5, i6⟩ := cDic_ok (X := X) (pos := pos) h3
      obtain ⟨d1, d2⟩ := dOf_ok (X := X) h2
      refine ⟨pps_cons (kOf_ok h1) d1 i1, by rw [List.all_cons, i2]; rfl, by simp [i3], by simp [i4], fun p hp => ?_, ?_⟩
      · rcases List.mem_cons.mp hp with e | hp
        · rw [e]; exact d2
        · exact i5 p hp
      · refine List.pairwise_cons.mpr ⟨fun q hq => ?_, i6⟩
        obtain ⟨y, hy, e⟩ := List.mem_map.mp hq
        have := List.all_eq_true.mp hn y hy
        rw [← e]
        simpa using this
    · cases h
  | none :: _, _, _, h => by cases h
  | some _ :: _, [], _, h => by cases h
  | [], _ :: _, _, h => by cases h
theorem repK_dc {K : PySem.W.Frag} {H : Hp} {O : AS} : ∀ {kvs : List (L2.Key × D)}, (∀ p ∈ kvs, ∀ K H O, Rep K H O p.2 (vOf p.2)) → RepK K H O (dcD kvs) (dcV kvs)
  | [], _ => .nil
  | p :: r, h => .cons (h p List.mem_cons_self K H O) (repK_dc fun q hq => h q (List.mem_cons_of_mem _ hq))
theorem zpe_dic {X : Cx} {pos : Pos} {ks : List (Option Expr)} {vs : List Expr} {kvs : List (L2.Key × D)} (h : cDic ks vs = some kvs) (hl : kvs.length ≤ 15) : PE X (.Dict ks vs pos) (tE X (eDic kvs)) := by
  obtain ⟨i1, i2, i3, i4, i5, i6⟩ := cDic_ok (X := X) (pos := pos) h
  have fin : ∀ {σ : L2.St} {H : Hp} {Q : VK}, tE X (eDic kvs) σ H Q → ∀ (p : Addr) (H' : Hp), H p = none → (∀ b, b ≠ p → H' b = H b) → H' p = some (.dK (dcV kvs)) → Q (.ref p) H' := by
    intro σ H Q hq p H' hp hk hp2
    obtain ⟨c, E, ρ, rv, ρ', hK, hR, hf, q⟩ := hq
    cases hf
    have g : Grow H H' := fun b o hb => by rw [hk b fun e => by rw [e, hp] at hb; cases hb]; exact hb
    exact q _ _ (ResB.post Stp.rfl hR ⟨g, p, rfl, hp, _, hp2, repK_dc i5⟩)
  by_cases e : kvs = []
  · subst e
    cases ks with
    | cons k ks => simp at i4
    | nil =>
      cases vs with
      | cons v vs => simp at i3
      | nil => exact ⟨fun pins s σ H Q I hq => pe_dnewK.run pins s σ H Q I fun p hp => fin hq p _ hp (fun b hb => upd_ne hb) upd_same⟩
  · refine ⟨fun pins s σ H Q I hq => (pe_disp i1 i2 i3 (fun e' => e (List.eq_nil_of_length_eq_zero (by rw [← i4, e']; rfl))) (by omega)).run pins s σ H Q I fun p hp => ?_⟩
    refine pairs_const kvs σ _ _ ⟨upd_same, dcV kvs, rfl, by unfold dcV; rw [List.length_map]; exact hl, ?_⟩
    rw [merge_new (dcV kvs) [] (fun _ _ q hq => by cases hq) i6]
    exact fin hq p _ hp (fun b hb => by rw [upd_ne hb, upd_ne hb]) upd_same
end Z
namespace Z
open PySem PySem.Spec L2
open PyProof.Rows hiding St

/-! ## from the text to evaluator functions: expressions -/
structure Tab where
  fn : Str → Option FnS
  con : Str → Option D
  kw : Str → Nat → List Str → Option (List Nat)
structure Co where
  e : Scope → Expr → Option ME
  b : Scope → Expr → Option MB
def ixOf : List Str → Str → Option Nat
  | [], _ => none
  | y :: r, x => if y = x then some 0 else (ixOf r x).bind fun i => some (i + 1)
theorem ixOf_ok : ∀ {N : List Str} {x : Str} {i : Nat}, ixOf N x = some i → N[i]? = some x
  | [], _, _, h => by cases h
  | y :: r, x, i, h => by
    unfold ixOf at h
    split at h
    · rename_i e; cases h; rw [e]; rfl
    · obtain ⟨j, e1, e2⟩ := bindS h
      cases e2
      exact ixOf_ok (N := r) e1
def okNm (x : Str) : Bool := !(x == ("__debug__" : Str)) && !(x == ("__classdict__" : Str)) && !(x == ("__name__" : Str))
def locIx (N : List Str) (sc : Scope) (x : Str) : Option Nat := match sc.names.lookup x with
  | some .local => if okNm x then ixOf N x else none
  | some .cell => if okNm x then ixOf N x else none
  | some .free => if okNm x then ixOf N x else none
  | _ => none
def isGl (sc : Scope) (x : Str) : Bool := okNm x && decide (sc.names.lookup x = some .globalImplicit)
def notStar : Expr → Bool
  | .Starred .. => false
  | _ => true
def notSet : Expr → Bool
  | .Set .. => false
  | _ => true
def notSlice : Expr → Bool
  | .Slice .. => false
  | _ => true
def notComp : Expr → Bool
  | .ListComp .. => false
  | .SetComp .. => false
  | .DictComp .. => false
  | _ => true
def plainTest : Expr → Bool
  | .UnaryOp .Not _ _ => false
  | .BoolOp .. => false
  | .IfExp .. => false
  | .Compare .. => false
  | _ => true
theorem star_ok {e : Expr} {es : List Expr} {env : Env} (h : notStar e = true) : starEach (e :: es) env = (false, eval e env) :: starEach es env := by
  cases e <;> first | rfl | cases h
theorem set_ok {e : Expr} {op : CmpOp} (h : notSet e = true) : behindInMarks op e = false := by
  cases e <;> first | rfl | cases h
theorem fold_ok {e : Expr} {env : Env} (h : notSet e = true) : ∀ x, foldedSetIterable e env x = pure x := by
  intro x
  cases e <;> first | rfl | cases h
theorem slice_ok {e : Expr} (h : notSlice e = true) : PlainIx e := by
  intro o i
  cases e <;> first | rfl | cases h
theorem test_ok {e : Expr} {env : Env} (h : plainTest e = true) : ∀ whole, isTrue e env whole = (do let v ← whole; standAt e.pos; holding [v] (truthy v)) := by
  intro whole
  cases e with
  | UnaryOp op a p => cases op <;> first | rfl | cases h
  | _ => first | rfl | cases h
theorem swap_ok {e : Expr} {tg : Option Expr} {l : Nat} {env : Env} (h : notComp e = true) : swapsWith e tg l env = pure false := by
  cases e <;> first | rfl | cases h

def opB : Operator → Option (D → D → Option RV)
  | .Add => some addD
  | .Sub => some subD
  | .Mult => some mulD
  | .FloorDiv => some fdivD
  | .Mod => some modD
  | .Pow => some powD
  | _ => none
def cmpB : CmpOp → Option (D → D → Option RV)
  | .Lt => some ltD
  | .LtE => some leD
  | .Gt => some gtD
  | .GtE => some geD
  | .Eq => some eqD
  | .NotEq => some neD
  | .In => some inD
  | .NotIn => some notInD
  | .Is => some isD
  | .IsNot => some isNotD
def bltB0 (x : Str) : Option (List D → Option RV) :=
  if x = ("len" : Str) then some lenD else if x = ("abs" : Str) then some absD else if x = ("max" : Str) then some maxD else if x = ("min" : Str) then some minD
  else if x = ("sum" : Str) then some sumD else if x = ("all" : Str) then some allD else if x = ("any" : Str) then some anyD else if x = ("divmod" : Str) then some divmodD
  else if x = ("int" : Str) then some intD else if x = ("tuple" : Str) then some tupleD else if x = ("list" : Str) then some listD
  else if x = ("str" : Str) then some strD else none
def bltB (x : Str) : Option (List D → Option RV) := if x = ("sorted" : Str) then some sortedD else bltB0 x
def tyB (x : Str) : Option String :=
  if x = ("int" : Str) then some "int" else if x = ("bool" : Str) then some "bool" else if x = ("str" : Str) then some "str" else if x = ("list" : Str) then some "list"
  else if x = ("tuple" : Str) then some "tuple" else if x = ("dict" : Str) then some "dict" else none
theorem opB_ok {X : Cx} {op : Operator} {g : D → D → Option RV} (h : opB op = some g) : OpR X (binaryOp op) (rD2 X.K g) := by
  cases op <;> first
    | (cases h; first | exact od_add | exact od_sub | exact od_mul | exact od_fdiv | exact od_mod | exact od_pow)
    | cases h
theorem cmpB_ok {X : Cx} (hu : X.A.units + 66 < cLine) {op : CmpOp} {g : D → D → Option RV} (h : cmpB op = some g) : OpR X (compareOp op) (rD2 X.K g) := by
  cases op <;> (cases h; first | exact od_lt hu | exact od_le hu | exact od_gt hu | exact od_ge hu | exact od_eq hu | exact od_ne hu | exact od_in hu | exact od_notIn hu | exact od_is | exact od_isNot)
theorem bltB0_ok {X : Cx} (hc : X.calm = true) {x : Str} {g : List D → Option RV} (h : bltB0 x = some g) :
    (∃ id, bootBuiltins x = some (.builtin id) ∧ CallR X (.builtin id) (rDs X.K g)) ∨ ∃ T, bootBuiltins x = some (.type T) ∧ CallR X (.type T) (rDs X.K g) := by
  unfold bltB0 at h
  repeat' split at h
  all_goals first
    | (rename_i e; subst e; cases h; first
        | exact .inl ⟨"len", by decide +kernel, cd_len⟩
        | exact .inl ⟨"abs", by decide +kernel, cd_abs⟩
        | exact .inl ⟨"max", by decide +kernel, cd_max hc⟩
        | exact .inl ⟨"min", by decide +kernel, cd_min hc⟩
        | exact .inl ⟨"sum", by decide +kernel, cd_sum hc⟩
        | exact .inl ⟨"all", by decide +kernel, cd_all hc⟩
        | exact .inl ⟨"any", by decide +kernel, cd_any hc⟩
        | exact .inl ⟨"divmod", by decide +kernel, cd_divmod⟩
        | exact .inr ⟨"int", by decide +kernel, cd_int⟩
        | exact .inr ⟨"tuple", by decide +kernel, cd_tuple⟩
        | exact .inr ⟨"list", by decide +kernel, cd_list⟩
        | exact .inr ⟨"str", by decide +kernel, cd_str⟩)
    | cases h
theorem bltB_ok {X : Cx} (hu : X.A.units + 66 < cLine) (hc : X.calm = true) {x : Str} {g : List D → Option RV} (h : bltB x = some g) :
    (∃ id, bootBuiltins x = some (.builtin id) ∧ CallR X (.builtin id) (rDs X.K g)) ∨ ∃ T, bootBuiltins x = some (.type T) ∧ CallR X (.type T) (rDs X.K g) := by
  unfold bltB at h
  split at h
  · rename_i e; subst e; cases h; exact .inl ⟨"sorted", by decide +kernel, cd_sorted hu⟩
  · exact bltB0_ok hc h
theorem tyB_ok {x : Str} {T : String} (h : tyB x = some T) : bootBuiltins x = some (.type T) ∧ T ∈ knownTy := by
  unfold tyB at h
  repeat' split at h
  all_goals first
    | (rename_i e; subst e; cases h; exact ⟨by decide +kernel, by decide⟩)
    | cases h

section
variable (T : Tab) (N : List Str) (c : Co)
/-- an operand -/
def cO (sc : Scope) (a : Expr) : Option MO := match a with
  | .Name x p => match locIx N sc x with
    | some i => some (oSl i)
    | none => (c.e sc (.Name x p)).bind fun f => some (oTv f)
  | a => (c.e sc a).bind fun f => some (oTv f)
def cOs (sc : Scope) : List Expr → Option MOs
  | [] => some osNil
  | e :: es => if notStar e then (cO N c sc e).bind fun f => (cOs sc es).bind fun g => some (osCons f g) else none
/-- values that are kept -/
def cTs (sc : Scope) : List Expr → Option MOs
  | [] => some osNil
  | e :: es => if notStar e then (c.e sc e).bind fun f => (cTs sc es).bind fun g => some (osCons (oTv f) g) else none
def isNm : Expr → Option Str
  | .Name x _ => some x
  | _ => none
def cAs (sc : Scope) : List Bool → List Expr → Option MAs
  | [], [] => some aNil
  | false :: ms, e :: es => if notStar e then (c.e sc e).bind fun f => (cAs sc ms es).bind fun g => some (aTv f g) else none
  | true :: ms, e :: es => if notStar e then match (isNm e).bind (locIx N sc) with
      | some i => (cAs sc ms es).bind fun g => some (aSl i g)
      | none => (c.e sc e).bind fun f => (cAs sc ms es).bind fun g => some (aOw f g)
    else none
  | _, _ => none
def cTys (sc : Scope) : List Expr → Option (List String)
  | [] => some []
  | .Name x _ :: es => if isGl sc x then (tyB x).bind fun t => (cTys sc es).bind fun r => some (t :: r) else none
  | _ :: _ => none
def cC : Const → Option D
  | .none => some .none
  | .bool b => some (.bool b)
  | .int i => some (.int i)
  | .str s => if PyData.strOk s then some (.str s) else none
  | _ => none
def cPart (sc : Scope) : Option Expr → Option MI
  | none => some iNo
  | some e => (c.e sc e).bind fun f => some (iSome f)
/-- a target: what it stores to -/
def cGs (f : Expr → Option (SG × List Nat)) : List Expr → Option (SGs × List Nat)
  | [] => some (gNil, [])
  | e :: es => if notStar e then (f e).bind fun g => (cGs f es).bind fun h => some (gCons g.1 h.1, g.2 ++ h.2) else none
def cG (pr : List Nat) (sc : Scope) : Nat → Expr → Option (SG × List Nat)
  | _, .Name x _ => if decide (sc.names.lookup x = some .local) || decide (sc.names.lookup x = some .cell) then (locIx N sc x).bind fun i => some (gN pr i, [i]) else none
  | n + 1, .Tuple es _ _ => (cGs (cG pr sc n) es).bind fun h => some (gTn es.length h.1, h.2)
  | _, .Subscript (.Name x _) ie _ => if notSlice ie then (locIx N sc x).bind fun i => (c.e sc ie).bind fun f => some (gIx i f, []) else none
  | _, _ => none
def isTup : Expr → Bool
  | .Tuple .. => true
  | _ => false
/-- what is walked -/
def cI (sc : Scope) (tg : Expr) (it : Expr) : Option MIt := match it with
  | .Call (.Name x p) es [] pos =>
    if isGl sc x && decide (x = ("range" : Str)) then (cTs c sc es).bind fun fs => match es with
      | [_] => some (iFn rng1 fs)
      | [_, _] => some (iFn rng2 fs)
      | [_, _, _] => some (iFn rng3 fs)
      | _ => none
    else if isGl sc x && decide (x = ("enumerate" : Str)) then if isTup tg then (cTs c sc es).bind fun fs => match es with
        | [_] => some (iFn enuD fs)
        | _ => none
      else none
    else if isGl sc x && decide (x = ("zip" : Str)) then if isTup tg then (cTs c sc es).bind fun fs => match es with
        | [_, _] => some (iFn zpD fs)
        | _ => none
      else none
    else (c.e sc (.Call (.Name x p) es [] pos)).bind fun f => some (iSeq f)
  | .Set _ _ _ => none
  | it => (c.e sc it).bind fun f => some (iSeq f)
def cTests (sc : Scope) : List Expr → Option MB
  | [] => some bYes
  | [t] => c.b sc t
  | _ => none
def ownOf (scope : Scope) : Option (List (Str × Nat)) := (scope.names.foldr (fun y r => match y.2 with
  | .local => match ixOf N y.1 with
    | some i => r.bind fun l => some ((y.1, i) :: l)
    | none => r
  | .cell => match ixOf N y.1 with
    | some i => r.bind fun l => some ((y.1, i) :: l)
    | none => r
  | _ => r) (some []))
def cLc (sc : Scope) (elt : Expr) (gs : List Comprehension) (scope : Scope) : Option ME := match gs with
  | [⟨tg, iter, ifs, 0⟩] => (ownOf N scope).bind fun own => if blkC N sc scope own && notSet iter then (cI c sc tg iter).bind fun fi => (cG N c [] scope 4 tg).bind fun g =>
      if g.2.all (fun i => (own.map (·.2)).contains i) then (cTests c scope ifs).bind fun t => (c.e scope elt).bind fun f => some (eLc (own.map (·.2)) fi g.1 t f) else none
    else none
  | _ => none
def cLc2 (sc : Scope) (elt : Expr) (gs : List Comprehension) (scope : Scope) : Option ME := match gs with
  | [⟨tg, iter, ifs, 0⟩, ⟨tg1, iter1, ifs1, 0⟩] => (ownOf N scope).bind fun own => if blkC N sc scope own && notSet iter && notSet iter1 then (cI c sc tg iter).bind fun fi => (cG N c [] scope 4 tg).bind fun g => (cI c scope tg1 iter1).bind fun fi1 => (cG N c [] scope 4 tg1).bind fun g1 =>
      if g.2.all (fun i => (own.map (·.2)).contains i) && g1.2.all (fun i => (own.map (·.2)).contains i) then (cTests c scope ifs).bind fun t => (cTests c scope ifs1).bind fun t1 => (c.e scope elt).bind fun f => some (eLc2 (own.map (·.2)) g1.2 fi g.1 t fi1 g1.1 t1 f) else none
    else none
  | _ => none
def cLcA (sc : Scope) (elt : Expr) (gs : List Comprehension) (scope : Scope) : Option ME := match gs with
  | [_, _] => cLc2 N c sc elt gs scope
  | _ => cLc N c sc elt gs scope
/-- the arguments of list(range(..)) -/
def rngOf (sc : Scope) : List Expr → Option (List Expr)
  | [.Call (.Name y _) es [] _] => if decide (y = ("range" : Str)) && isGl sc y then some es else none
  | _ => none
def cRg (sc : Scope) (lst : Bool) : List Expr → Option ME
  | [a] => if notStar a then (c.e sc a).bind fun f => some (eRg1 lst f) else none
  | [a, b] => if notStar a && notStar b then (c.e sc a).bind fun f => (c.e sc b).bind fun g => some (eRg2 lst f g) else none
  | _ => none
def cKw (sc : Scope) : List Keyword → Option (MOs × List Str)
  | [] => some (osNil, [])
  | ⟨some n, e, _⟩ :: r => (c.e sc e).bind fun f => (cKw sc r).bind fun g => some (osCons (oTv f) g.1, n :: g.2)
  | _ => none
def cCallK (sc : Scope) (x : Str) (es : List Expr) (kws : List Keyword) : Option ME :=
  if isGl sc x then (T.fn x).bind fun F => (cTs c sc es).bind fun fs => (cKw c sc kws).bind fun g => (T.kw x es.length g.2).bind fun pm => some (eCallK F es.length g.2.length pm fs g.1)
  else none
def cBlt (sc : Scope) (x : Str) (es : List Expr) : Option ME :=
  if decide (x = ("isinstance" : Str)) then match es with
        | [a, .Name t p] => if notStar a then (cO N c sc a).bind fun fo => (cTys sc [.Name t p]).bind fun Ts => some (eIsi Ts fo) else none
        | [a, .Tuple ts _ _] => if notStar a && szb ts.length then (cO N c sc a).bind fun fo => (cTys sc ts).bind fun Ts => some (eIsi Ts fo) else none
        | _ => none
  else if es.isEmpty then none else (bltB x).bind fun g => (cOs N c sc es).bind fun fs => some (eB g fs)
def cCall (sc : Scope) (x : Str) (es : List Expr) : Option ME :=
  if isGl sc x then match T.fn x with
    | some F => (cAs N c sc F.mask es).bind fun fs => some (eCall F fs)
    | none => if decide (x = ("list" : Str)) || decide (x = ("tuple" : Str)) then match rngOf sc es with
        | some as => cRg c sc (decide (x = ("list" : Str))) as
        | none => cBlt N c sc x es
      else cBlt N c sc x es
  else none
def cMeth (sc : Scope) (o : Expr) (m : Str) (es : List Expr) (apos pos : Pos) : Option ME :=
  if apos.endLine == pos.line then match (isNm o).bind (locIx N sc) with
    | some i => if decide (m = ("append" : Str)) then match es with
        | [e] => if notStar e then (c.e sc e).bind fun f => some (eApp i f) else none
        | _ => none
      else if decide (m = ("pop" : Str)) then match es with
        | [] => some (ePop i)
        | [e] => if notStar e then (c.e sc e).bind fun f => some (ePopAt i f) else none
        | _ => none
      else none
    | none => none
  else none
def cE (sc : Scope) : Expr → Option ME
  | .Constant k _ _ => (cC k).bind fun d => some (eC d)
  | .Name x _ => match locIx N sc x with
    | some i => some (eVar i)
    | none => if isGl sc x then (T.con x).bind fun d => some (eC d) else none
  | .BinOp a op b _ => (opB op).bind fun g => (cO N c sc a).bind fun fa => (cO N c sc b).bind fun fb => some (eOp2 g fa fb)
  | .UnaryOp .Not a _ => (c.e sc a).bind fun f => some (eNot f)
  | .UnaryOp .USub a _ => (cO N c sc a).bind fun f => some (eOp1 negD f)
  | .BoolOp _ [a] _ => c.e sc a
  | .BoolOp .And (a :: b :: es) pos => (c.e sc a).bind fun f => (c.e sc (.BoolOp .And (b :: es) pos)).bind fun g => some (eAnd f g)
  | .BoolOp .Or (a :: b :: es) pos => (c.e sc a).bind fun f => (c.e sc (.BoolOp .Or (b :: es) pos)).bind fun g => some (eOr f g)
  | .IfExp t a b _ => (c.b sc t).bind fun ft => (c.e sc a).bind fun fa => (c.e sc b).bind fun fb => some (eIf ft fa fb)
  | .Compare a [op] [b] _ => if notSet b then (cmpB op).bind fun g => (cO N c sc a).bind fun fa => (cO N c sc b).bind fun fb => some (eOp2 g fa fb) else none
  | .Compare a [op, op'] [b, d] _ => if notSet d then (cmpB op).bind fun g => (cmpB op').bind fun g' => (cO N c sc a).bind fun fa => (cO N c sc b).bind fun fb => (cO N c sc d).bind fun fd => some (eChain g g' fa fb fd) else none
  | .Subscript a (.Slice lo hi none _) _ => (cO N c sc a).bind fun fa => (cPart c sc lo).bind fun fl => (cPart c sc hi).bind fun fh => some (eSl fa fl fh)
  | .Subscript a (.Slice none none (some (.UnaryOp .USub (.Constant (.int 1) _ _) _)) _) _ => (cO N c sc a).bind fun fa => some (eOp1 revD fa)
  | .Dict ks vs _ => (cDic ks vs).bind fun kvs => if decide (kvs.length ≤ 15) then some (eDic kvs) else none
  | .Subscript a b _ => if notSlice b then (cO N c sc a).bind fun fa => (cO N c sc b).bind fun fb => some (eOp2 ixD fa fb) else none
  | .Tuple es _ _ => (cTs c sc es).bind fun fs => some (eTup fs)
  | .List es _ => (cTs c sc es).bind fun fs => some (eLst fs)
  | .ListComp elt gs scope _ => cLcA N c sc elt gs scope
  | .Call (.Name x _) es [] _ => cCall T N c sc x es
  | .Call (.Name x _) es kws _ => cCallK T c sc x es kws
  | .Call (.Attribute o m apos) es [] pos => cMeth N c sc o m es apos pos
  | _ => none
def cB (sc : Scope) : Expr → Option MB
  | .UnaryOp .Not a _ => (c.b sc a).bind fun f => some (bNot f)
  | .BoolOp _ [a] _ => c.b sc a
  | .BoolOp .And (a :: b :: es) pos => (c.b sc a).bind fun f => (c.b sc (.BoolOp .And (b :: es) pos)).bind fun g => some (bAnd f g)
  | .BoolOp .Or (a :: b :: es) pos => (c.b sc a).bind fun f => (c.b sc (.BoolOp .Or (b :: es) pos)).bind fun g => some (bOr f g)
  | .Compare a [op] [b] _ => if notSet b then (cmpB op).bind fun g => (cO N c sc a).bind fun fa => (cO N c sc b).bind fun fb => some (bOp2 g fa fb) else none
  | .Compare a [op, op'] [b, d] _ => if notSet d then (cmpB op).bind fun g => (cmpB op').bind fun g' => (cO N c sc a).bind fun fa => (cO N c sc b).bind fun fb => (cO N c sc d).bind fun fd => some (bChain g g' fa fb fd) else none
  | .IfExp t a b _ => (c.b sc t).bind fun ft => (c.b sc a).bind fun fa => (c.b sc b).bind fun fb => some (bIf ft fa fb)
  | e => if plainTest e then (cO N c sc e).bind fun f => some (bTru f) else none
end
def co (T : Tab) (N : List Str) : Nat → Co
  | 0 => ⟨fun _ _ => none, fun _ _ => none⟩
  | n + 1 => ⟨cE T N (co T N n), cB N (co T N n)⟩
end Z
namespace Z
open PySem PySem.Spec L2
open PyProof.Rows hiding St

/-! ## the compiled functions are sound: expressions -/
def bltNames : List Str := ["len", "abs", "max", "min", "sum", "all", "any", "divmod", "int", "tuple", "list", "isinstance", "range", "enumerate", "zip", "bool", "str", "dict", "sorted"]
structure TabOk (k : Nat) (T : Tab) (P : Program) (w : World) (K : PySem.W.Frag) (mg : Str → Option Value) (base : Heap) : Prop where
  fn : ∀ x F, T.fn x = some F → ∃ f fd ps, mg x = some (.ref f) ∧ PySem.W.keepIn K (.ref f) = true ∧ Binds K fd ps [] ∧ FnOk P w K mg base CX0 k f fd ps (spF K F) ∧ ∀ n ks pm, T.kw x n ks = some pm → KwOk K fd ps ks n pm
  con : ∀ x d, T.con x = some d → ∃ v u, mg x = some u ∧ RelV v u ∧ ∀ H O, Rep K H O d v
  blt : ∀ x ∈ bltNames, mg x = none
structure Ctx (k : Nat) (T : Tab) (N : List Str) (sc : Scope) (X : Cx) : Prop where
  hN : X.N = N
  nd : N.Nodup
  calm : X.calm = true
  room : Room k X.A
  pass : PassesOwn (model X.prog X.w) X.A X.env X.xe
  fit : ∀ x kd, sc.names.lookup x = some kd → (kd ≠ .free → X.env.scope.names.lookup x = some kd) ∧ (kd = .free → X.env.scope.names.lookup x = some .free ∨ X.env.scope.names.lookup x = some .cell)
  fnc : ∀ x, sc.names.lookup x = some .cell → X.fn x = true
  tab : TabOk k T X.prog X.w X.K X.mg X.base
section
variable {k : Nat} {T : Tab} {N : List Str} {sc : Scope} {X : Cx}
theorem lookup_relS_free {sc : Scope} : ∀ {names : List (Str × NameKind)} {x : Str}, names.lookup x = some .free →
    (names.map fun (n, k) => if (k == NameKind.free && sc.kind == .function && sc.names.lookup n == some .cell) then (n, NameKind.cell) else (n, k)).lookup x = some .free ∨
    (names.map fun (n, k) => if (k == NameKind.free && sc.kind == .function && sc.names.lookup n == some .cell) then (n, NameKind.cell) else (n, k)).lookup x = some .cell
  | [], _, h => by simp at h
  | (n, k₀) :: r, x, h => by
    have ih := @lookup_relS_free sc r x
    rw [List.map_cons]
    dsimp only
    cases hx : x == n with
    | true =>
      simp only [List.lookup_cons, hx] at h
      cases h
      by_cases hc : (NameKind.free == NameKind.free && sc.kind == .function && sc.names.lookup n == some .cell) = true
      · rw [if_pos hc]; simp [List.lookup_cons, hx]
      · rw [if_neg hc]; simp [List.lookup_cons, hx]
    | false =>
      simp only [List.lookup_cons, hx] at h
      by_cases hc : (k₀ == NameKind.free && sc.kind == .function && sc.names.lookup n == some .cell) = true
      · rw [if_pos hc]; simp only [List.lookup_cons, hx]; exact ih h
      · rw [if_neg hc]; simp only [List.lookup_cons, hx]; exact ih h
theorem Ctx.blk (C : Ctx k T N sc X) {scope : Scope} (s : Shared) (H : Hp) (A : Addr) (cl : List (Str × Addr)) (fp : List Addr) : Ctx k T N scope (X.blk s H scope (compEnvC scope cl A X.env) fp) := by
  refine ⟨C.hN, C.nd, C.calm, C.room, PassesOwn.never, fun x kd h => ⟨fun hk => ?_, fun hk => ?_⟩, fun x h => ?_, C.tab⟩
  · exact lookup_relS_keep (sc := X.env.scope) hk h
  · subst hk
    exact lookup_relS_free (sc := X.env.scope) h
  · show (scope.names.lookup x == some NameKind.cell) = true
    rw [h]; rfl
theorem Ctx.hu0 (C : Ctx k T N sc X) : X.A.units + 66 < cLine := by have := C.room.un; omega
theorem Ctx.gl (C : Ctx k T N sc X) {x : Str} (h : isGl sc x = true) : Gl X x ∧ (x == ("__debug__" : Str)) = false ∧ x ≠ "__name__" := by
  unfold isGl okNm at h
  simp only [Bool.and_eq_true, Bool.not_eq_true', decide_eq_true_eq] at h
  obtain ⟨⟨⟨h1, h2⟩, h3⟩, h4⟩ := h
  exact ⟨(C.fit x _ h4).1 (by decide), h1, by simpa using h3⟩
theorem Ctx.var (C : Ctx k T N sc X) {x : Str} {i : Nat} {p : Pos} (h : locIx N sc x = some i) : PE X (.Name x p) (tVar i) := by
  have key : (Vis X.env.scope x) → (if okNm x then ixOf N x else none) = some i → PE X (.Name x p) (tVar i) := fun v h => by
    split at h
    · rename_i o
      unfold okNm at o
      simp only [Bool.and_eq_true, Bool.not_eq_true'] at o
      exact pe_var (by rw [C.hN]; exact ixOf_ok h) v o.1.1 o.1.2
    · cases h
  unfold locIx at h
  split at h
  · rename_i e; exact key (.inl ((C.fit x _ e).1 (by decide))) h
  · rename_i e; exact key (.inr (.inl ((C.fit x _ e).1 (by decide)))) h
  · rename_i e
    refine key ?_ h
    rcases (C.fit x _ e).2 rfl with q | q
    · exact .inr (.inr q)
    · exact .inr (.inl q)
  · cases h
theorem locIx_ix {x : Str} {i : Nat} (h : locIx N sc x = some i) : N[i]? = some x := by
  unfold locIx at h
  split at h <;> first
    | (split at h <;> first | exact ixOf_ok h | cases h)
    | cases h
theorem Ctx.name (C : Ctx k T N sc X) {x : Str} {i : Nat} {p : Pos} (h : locIx N sc x = some i) (hk : sc.names.lookup x = some .local ∨ sc.names.lookup x = some .cell) : PG X (.Name x p) (gName i) := by
  have hi : X.N[i]? = some x := by rw [C.hN]; exact locIx_ix h
  have nd : X.N.Nodup := by rw [C.hN]; exact C.nd
  rcases hk with e | e
  · have q := (C.fit x _ e).1 (by decide)
    exact pg_name nd hi (.inl q) (.inr q)
  · exact pg_name nd hi (.inr ((C.fit x _ e).1 (by decide))) (.inl (C.fnc x e))
theorem plain_ok {env : Env} {pos : Pos} : ∀ {es : List Expr}, es.all notStar = true → (backTo pos (starEach es env)).any (·.1) = false
  | [], _ => rfl
  | e :: es, h => by
    simp only [List.all_cons, Bool.and_eq_true] at h
    rw [star_ok h.1]
    have ih := plain_ok (pos := pos) (env := env) h.2
    unfold backTo at ih ⊢
    rw [List.map_cons, List.any_cons, ih]; rfl

structure CoOk (k : Nat) (T : Tab) (N : List Str) (c : Co) : Prop where
  e : ∀ {sc : Scope} {X : Cx} {e : Expr} {f : ME}, Ctx k T N sc X → c.e sc e = some f → PE X e (tE X f)
  b : ∀ {sc : Scope} {X : Cx} {e : Expr} {f : MB}, Ctx k T N sc X → c.b sc e = some f → PT X e (tT X f)
  w : ∀ {sc : Scope} {X : Cx} {op : BoolOp} {es : List Expr} {pos : Pos} {f : MB}, Ctx k T N sc X → c.b sc (.BoolOp op es pos) = some f → PW X (.BoolOp op es pos) (tT X f)
variable {c : Co}
theorem cO_ok (S : CoOk k T N c) (C : Ctx k T N sc X) {a : Expr} {f : MO} (h : cO N c sc a = some f) : PE X a (tOpd X f) := by
  unfold cO at h
  split at h
  · split at h
    · rename_i i hi
      cases h
      exact zpo_slot (C.var hi)
    · obtain ⟨g, h1, h2⟩ := bindS h
      cases h2
      exact zpo_tv (S.e C h1)
  · obtain ⟨g, h1, h2⟩ := bindS h
    cases h2
    exact zpo_tv (S.e C h1)
theorem cOs_ok (S : CoOk k T N c) (C : Ctx k T N sc X) : ∀ {es : List Expr} {f : MOs}, cOs N c sc es = some f → PA X es (tOps X f) ∧ es.all notStar = true
  | [], f, h => by cases h; exact ⟨zpa_nil, rfl⟩
  | e :: es, f, h => by
    unfold cOs at h
    split at h
    · rename_i hs
      obtain ⟨g, h1, h⟩ := bindS h
      obtain ⟨g2, h2, h⟩ := bindS h
      cases h
      obtain ⟨i1, i2⟩ := cOs_ok S C h2
      exact ⟨zpa_cons (cO_ok S C h1) i1 (star_ok hs), by rw [List.all_cons, hs, i2]; rfl⟩
    · cases h
theorem cTs_ok (S : CoOk k T N c) (C : Ctx k T N sc X) : ∀ {es : List Expr} {f : MOs}, cTs c sc es = some f → PA X es (tOps X f) ∧ es.all notStar = true
  | [], f, h => by cases h; exact ⟨zpa_nil, rfl⟩
  | e :: es, f, h => by
    unfold cTs at h
    split at h
    · rename_i hs
      obtain ⟨g, h1, h⟩ := bindS h
      obtain ⟨g2, h2, h⟩ := bindS h
      cases h
      obtain ⟨i1, i2⟩ := cTs_ok S C h2
      exact ⟨zpa_cons (zpo_tv (S.e C h1)) i1 (star_ok hs), by rw [List.all_cons, hs, i2]; rfl⟩
    · cases h
theorem isNm_var (C : Ctx k T N sc X) {e : Expr} {i : Nat} (h : (isNm e).bind (locIx N sc) = some i) : PE X e (tVar i) := by
  obtain ⟨x, h1, h2⟩ := bindS h
  cases e <;> first
    | (cases h1; exact C.var h2)
    | cases h1
theorem cAs_ok (S : CoOk k T N c) (C : Ctx k T N sc X) : ∀ {mask : List Bool} {es : List Expr} {f : MAs}, cAs N c sc mask es = some f → PA X es (tAs X f) ∧ es.all notStar = true ∧ (es = [] → f = aNil)
  | [], [], f, h => by cases h; exact ⟨za_nil, rfl, fun _ => rfl⟩
  | false :: ms, e :: es, f, h => by
    unfold cAs at h
    split at h
    · rename_i hs
      obtain ⟨g, h1, h⟩ := bindS h
      obtain ⟨g2, h2, h⟩ := bindS h
      cases h
      obtain ⟨i1, i2, _⟩ := cAs_ok S C h2
      exact ⟨za_tv (S.e C h1) i1 (star_ok hs), by rw [List.all_cons, hs, i2]; rfl, fun h => by cases h⟩
    · cases h
  | true :: ms, e :: es, f, h => by
    unfold cAs at h
    split at h
    · rename_i hs
      split at h
      · rename_i i hi
        obtain ⟨g2, h2, h⟩ := bindS h
        cases h
        obtain ⟨i1, i2, _⟩ := cAs_ok S C h2
        exact ⟨za_sl (isNm_var C hi) i1 (star_ok hs), by rw [List.all_cons, hs, i2]; rfl, fun h => by cases h⟩
      · obtain ⟨g, h1, h⟩ := bindS h
        obtain ⟨g2, h2, h⟩ := bindS h
        cases h
        obtain ⟨i1, i2, _⟩ := cAs_ok S C h2
        exact ⟨za_ow (S.e C h1) i1 (star_ok hs), by rw [List.all_cons, hs, i2]; rfl, fun h => by cases h⟩
    · cases h
  | [], _ :: _, _, h => by cases h
  | false :: _, [], _, h => by cases h
  | true :: _, [], _, h => by cases h
theorem cTys_ok (C : Ctx k T N sc X) : ∀ {es : List Expr} {Ts : List String}, cTys sc es = some Ts → PA X es (tTys Ts) ∧ es.all notStar = true ∧ (∀ t ∈ Ts, t ∈ knownTy) ∧ Ts.length = es.length
  | [], Ts, h => by cases h; exact ⟨zt_nil, rfl, (fun t h => by cases h), rfl⟩
  | e :: es, Ts, h => by
    unfold cTys at h
    split at h
    · rename_i e1; cases e1
    · rename_i x p es' heq
      cases heq
      split at h
      · rename_i hg
        obtain ⟨t, h1, h⟩ := bindS h
        obtain ⟨r, h2, h⟩ := bindS h
        cases h
        obtain ⟨i1, i2, i3, i4⟩ := cTys_ok C h2
        obtain ⟨t1, t2⟩ := tyB_ok h1
        obtain ⟨g1, g2, g3⟩ := C.gl hg
        have hm : X.mg x = none := by
          refine C.tab.blt x ?_
          unfold tyB at h1
          repeat' split at h1
          all_goals first
            | (rename_i e; rw [e]; decide)
            | cases h1
        refine ⟨zt_cons (pe_bltn g1 hm t1 (show RelV (.ty t) (.type t) from rfl) g3 g2) i1 (star_ok rfl), by rw [List.all_cons, i2]; rfl, fun u hu => ?_, by simp [i4]⟩
        rcases List.mem_cons.mp hu with e | hu
        · rw [e]; exact t2
        · exact i3 u hu
      · cases h
    · cases h
theorem cC_ok {kc : Const} {d : D} {j : Nat} {pos : Pos} (h : cC kc = some d) : PE X (.Constant kc j pos) (tE X (eC d)) := by
  unfold cC at h
  split at h
  · cases h; exact zpe_const pe_non (fun _ _ => .non)
  · cases h; exact zpe_const pe_bl (fun _ _ => .bl _)
  · cases h; exact zpe_const pe_int (fun _ _ => .int _)
  · split at h
    · rename_i hs
      cases h; exact zpe_const pe_str (fun _ _ => .str _ hs)
    · cases h
  · cases h
theorem cPart_ok (S : CoOk k T N c) (C : Ctx k T N sc X) {o : Option Expr} {f : MI} (h : cPart c sc o = some f) : PO X o (tI X f) := by
  unfold cPart at h
  split at h
  · cases h; exact zpi_no
  · obtain ⟨g, h1, h⟩ := bindS h
    cases h
    exact zpi_some (S.e C h1)
theorem eachG {env : Env} : ∀ {es : List Expr}, es.all notStar = true → (assignEach es env).findIdx? (·.1) = none ∧ (assignEach es env).length = es.length
  | [], _ => ⟨rfl, rfl⟩
  | e :: es, h => by
    simp only [List.all_cons, Bool.and_eq_true] at h
    obtain ⟨h1, h2⟩ := eachG (env := env) h.2
    have q : assignEach (e :: es) env = (false, assign e env) :: assignEach es env := by
      cases e <;> first | rfl | (exact absurd h.1 (by simp [notStar]))
    rw [q, List.findIdx?_cons, h1, List.length_cons, h2]
    exact ⟨rfl, rfl⟩
theorem eachG_cons {env : Env} {e : Expr} {es : List Expr} (h : notStar e = true) : (assignEach (e :: es) env).map (·.2) = assign e env :: (assignEach es env).map (·.2) := by
  cases e <;> first | rfl | (exact absurd h (by simp [notStar]))
theorem asg_ok {o ie : Expr} {pos : Pos} {env : Env} (h : notSlice ie = true) : ∀ v, assign (.Subscript o ie pos) env v = (do
      let ov ← holding [v] (eval o env)
      let iv ← holding [v, ov] (eval ie env)
      standAt pos
      holding [v, ov, iv] (setItem ov iv v)
      release [v, ov, iv] []) := by
  intro v
  cases ie <;> first | rfl | cases h
theorem cGs_ok {pr : List Nat} {F : Expr → Option (SG × List Nat)} (ih : ∀ {e : Expr} {g : SG} {tv : List Nat}, F e = some (g, tv) → PG X e (tG X pr tv g)) : ∀ {es : List Expr} {g : SGs} {tv : List Nat}, cGs F es = some (g, tv) → PGs X es (tGs X pr tv g) ∧ es.all notStar = true
  | [], g, tv, h => by cases h; exact ⟨zgs_nil, rfl⟩
  | e :: es, g, tv, h => by
    unfold cGs at h
    split at h
    · rename_i hs
      obtain ⟨⟨g1, t1⟩, h1, h⟩ := bindS h
      obtain ⟨⟨g2, t2⟩, h2, h⟩ := bindS h
      cases h
      obtain ⟨i1, i2⟩ := cGs_ok ih h2
      exact ⟨zgs_cons (ih h1) i1 (eachG_cons hs), by rw [List.all_cons, hs, i2]; rfl⟩
    · cases h
theorem cG_ok (S : CoOk k T N c) (C : Ctx k T N sc X) {pr : List Nat} : ∀ (n : Nat) {e : Expr} {g : SG} {tv : List Nat}, cG N c pr sc n e = some (g, tv) → PG X e (tG X pr tv g) := by
  intro n
  induction n with
  | zero =>
    intro e g tv h
    unfold cG at h
    split at h
    · split at h
      · rename_i hk
        rw [Bool.or_eq_true, decide_eq_true_eq, decide_eq_true_eq] at hk
        obtain ⟨i, h1, h⟩ := bindS h
        cases h
        exact zg_name (C.name h1 hk)
      · cases h
    · rename_i heq; cases heq
    · split at h
      · rename_i hs
        obtain ⟨i, h1, h⟩ := bindS h
        obtain ⟨f, h2, h⟩ := bindS h
        cases h
        exact zg_ix (Ctx.hu0 C) (C.var h1) (S.e C h2) (asg_ok hs)
      · cases h
    · cases h
  | succ n ih =>
    intro e g tv h
    unfold cG at h
    split at h
    · split at h
      · rename_i hk
        rw [Bool.or_eq_true, decide_eq_true_eq, decide_eq_true_eq] at hk
        obtain ⟨i, h1, h⟩ := bindS h
        cases h
        exact zg_name (C.name h1 hk)
      · cases h
    · rename_i heq
      cases heq
      obtain ⟨⟨g2, t2⟩, h1, h⟩ := bindS h
      cases h
      obtain ⟨i1, i2⟩ := cGs_ok (fun h => ih h) h1
      obtain ⟨q1, q2⟩ := eachG (env := X.env) i2
      exact zg_tup C.calm i1 q2 q1
    · split at h
      · rename_i hs
        obtain ⟨i, h1, h⟩ := bindS h
        obtain ⟨f, h2, h⟩ := bindS h
        cases h
        exact zg_ix (Ctx.hu0 C) (C.var h1) (S.e C h2) (asg_ok hs)
      · cases h
    · cases h
end
end Z
namespace Z
open PySem PySem.Spec L2
open PyProof.Rows hiding St
section
variable {k : Nat} {T : Tab} {N : List Str} {sc : Scope} {X : Cx} {c : Co}
theorem Ctx.bn (C : Ctx k T N sc X) {x : Str} (h : x ∈ bltNames := by decide) : X.mg x = none := C.tab.blt x h
theorem s1 {a : Expr} {env : Env} (h : [a].all notStar = true) : starEach [a] env = [(false, eval a env)] := star_ok (by simpa using h)
theorem cI_ok (S : CoOk k T N c) (C : Ctx k T N sc X) {tg it : Expr} {f : MIt} (h : cI c sc tg it = some f) : PI X tg it (tIt X f) := by
  unfold cI at h
  split at h
  · rename_i x p es pos
    split at h
    · rename_i hc
      rw [Bool.and_eq_true, decide_eq_true_eq] at hc
      obtain ⟨hg, e⟩ := hc
      subst e
      obtain ⟨g1, g2, g3⟩ := C.gl hg
      obtain ⟨fs, h1, h⟩ := bindS h
      obtain ⟨i1, i2⟩ := cTs_ok S C h1
      split at h
      · cases h; exact zi_range1 g1 C.bn i1 (s1 i2)
      · cases h
        simp only [List.all_cons, Bool.and_eq_true] at i2
        obtain ⟨a1, a2, _⟩ := i2
        exact zi_range2 g1 C.bn i1 (by rw [star_ok a1, star_ok a2]; rfl) (by rw [star_ok a2]; rfl)
      · cases h
        have i3 := i2
        simp only [List.all_cons, Bool.and_eq_true] at i2
        obtain ⟨a1, a2, a3, _⟩ := i2
        exact zi_range3 g1 C.bn i1 (star_ok a1) (plain_ok (by simp [a2, a3]))
      · cases h
    · split at h
      · rename_i hc
        rw [Bool.and_eq_true, decide_eq_true_eq] at hc
        obtain ⟨hg, e⟩ := hc
        subst e
        obtain ⟨g1, g2, g3⟩ := C.gl hg
        split at h
        · rename_i ht
          obtain ⟨fs, h1, h⟩ := bindS h
          obtain ⟨i1, i2⟩ := cTs_ok S C h1
          split at h
          · cases h
            cases tg <;> first
              | exact zi_enum g1 C.bn i1 (s1 i2)
              | cases ht
          · cases h
        · cases h
      · split at h
        · rename_i hc
          rw [Bool.and_eq_true, decide_eq_true_eq] at hc
          obtain ⟨hg, e⟩ := hc
          subst e
          obtain ⟨g1, g2, g3⟩ := C.gl hg
          split at h
          · rename_i ht
            obtain ⟨fs, h1, h⟩ := bindS h
            obtain ⟨i1, i2⟩ := cTs_ok S C h1
            split at h
            · cases h
              simp only [List.all_cons, Bool.and_eq_true] at i2
              obtain ⟨a1, a2, _⟩ := i2
              cases tg <;> first
                | exact zi_zip g1 C.bn i1 (star_ok a1) (plain_ok (by simp [a2]))
                | cases ht
            · cases h
          · cases h
        · obtain ⟨g, h1, h⟩ := bindS h
          cases h
          exact zi_seq (S.e C h1)
  · cases h
  · obtain ⟨g, h1, h⟩ := bindS h
    cases h
    exact zi_seq (S.e C h1)
theorem cTests_ok (S : CoOk k T N c) (C : Ctx k T N sc X) {ts : List Expr} {f : MB} (h : cTests c sc ts = some f) : PTs X ts (tT X f) := by
  unfold cTests at h
  split at h
  · cases h; exact zts_nil
  · exact pts_one (S.b C h)
  · cases h
theorem blkC_fit (C : Ctx k T N sc X) {scope : Scope} {own : List (Str × Nat)} (h : blkC N sc scope own = true) : BlkOk X.N X.env.scope scope own := by
  have b := blkOk_by h
  rw [C.hN]
  refine ⟨b.kind, b.uniq, b.ix, fun y hy e => ?_, b.own⟩
  rcases b.free y hy e with q | q
  · exact .inl ((C.fit _ _ q).1 (by decide))
  · exact ((C.fit _ _ q).2 rfl).symm
theorem cLc_get {elt : Expr} {gs : List Comprehension} {scope : Scope} {f : ME} (h : cLc N c sc elt gs scope = some f) :
    ∃ tg iter ifs own fi g tv t fe, gs = [⟨tg, iter, ifs, 0⟩] ∧ f = eLc (own.map (·.2)) fi g t fe ∧ blkC N sc scope own = true ∧ notSet iter = true ∧ cI c sc tg iter = some fi ∧ cG N c [] scope 4 tg = some (g, tv) ∧ (∀ i ∈ tv, i ∈ own.map (·.2)) ∧ cTests c scope ifs = some t ∧ c.e scope elt = some fe := by
  unfold cLc at h
  split at h
  · rename_i tg iter ifs
    obtain ⟨own, h1, h⟩ := bindS h
    split at h
    · rename_i hc
      rw [Bool.and_eq_true] at hc
      obtain ⟨fi, h2, h⟩ := bindS h
      obtain ⟨⟨g, tv⟩, h3, h⟩ := bindS h
      split at h
      · rename_i ht
        obtain ⟨t, h4, h⟩ := bindS h
        obtain ⟨fe, h5, h⟩ := bindS h
        cases h
        refine ⟨tg, iter, ifs, own, fi, g, tv, t, fe, rfl, rfl, hc.1, hc.2, h2, h3, fun i hi => ?_, h4, h5⟩
        have := List.all_eq_true.mp ht i hi
        simpa using this
      · cases h
    · cases h
  · cases h
theorem cLc_ok (S : CoOk k T N c) (C : Ctx k T N sc X) {elt : Expr} {gs : List Comprehension} {scope : Scope} {pos : Pos} {f : ME} (h : cLc N c sc elt gs scope = some f) : PE X (.ListComp elt gs scope pos) (tE X f) := by
  obtain ⟨tg, iter, ifs, own, fi, g, tv, t, fe, rfl, rfl, h1, h2, h3, h4, h5, h6, h7⟩ := cLc_get h
  exact zpe_lc C.calm (by rw [C.hN]; exact C.nd) (cI_ok S C h3) (blkC_fit C h1) (fun s H A cl fp => cG_ok S (C.blk s H A cl fp) 4 h4) (fun s H A cl fp => cTests_ok S (C.blk s H A cl fp) h6) (fun s H A cl fp => S.e (C.blk s H A cl fp) h7) (fold_ok h2) h5
theorem cLc2_get {elt : Expr} {gs : List Comprehension} {scope : Scope} {f : ME} (h : cLc2 N c sc elt gs scope = some f) :
    ∃ tg iter ifs tg1 iter1 ifs1 own fi g tv fi1 g1 vs1 t t1 fe, gs = [⟨tg, iter, ifs, 0⟩, ⟨tg1, iter1, ifs1, 0⟩] ∧ f = eLc2 (own.map (·.2)) vs1 fi g t fi1 g1 t1 fe ∧ blkC N sc scope own = true ∧ notSet iter = true ∧ notSet iter1 = true ∧ cI c sc tg iter = some fi ∧ cG N c [] scope 4 tg = some (g, tv) ∧
      cI c scope tg1 iter1 = some fi1 ∧ cG N c [] scope 4 tg1 = some (g1, vs1) ∧ (∀ i ∈ tv, i ∈ own.map (·.2)) ∧ (∀ i ∈ vs1, i ∈ own.map (·.2)) ∧ cTests c scope ifs = some t ∧ cTests c scope ifs1 = some t1 ∧ c.e scope elt = some fe := by
  unfold cLc2 at h
  split at h
  · rename_i tg iter ifs tg1 iter1 ifs1
    obtain ⟨own, h1, h⟩ := bindS h
    split at h
    · rename_i hc
      simp only [Bool.and_eq_true] at hc
      obtain ⟨fi, h2, h⟩ := bindS h
      obtain ⟨⟨g, tv⟩, h3, h⟩ := bindS h
      obtain ⟨fi1, h4, h⟩ := bindS h
      obtain ⟨⟨g1, vs1⟩, h5, h⟩ := bindS h
      split at h
      · rename_i ht
        rw [Bool.and_eq_true] at ht
        obtain ⟨t, h6, h⟩ := bindS h
        obtain ⟨t1, h7, h⟩ := bindS h
        obtain ⟨fe, h8, h⟩ := bindS h
        cases h
        refine ⟨tg, iter, ifs, tg1, iter1, ifs1, own, fi, g, tv, fi1, g1, vs1, t, t1, fe, rfl, rfl, hc.1.1, hc.1.2, hc.2, h2, h3, h4, h5, fun i hi => ?_, fun i hi => ?_, h6, h7, h8⟩
        · have := List.all_eq_true.mp ht.1 i hi
          simpa using this
        · have := List.all_eq_true.mp ht.2 i hi
          simpa using this
      · cases h
    · cases h
  · cases h
theorem cLc2_ok (S : CoOk k T N c) (C : Ctx k T N sc X) {elt : Expr} {gs : List Comprehension} {scope : Scope} {pos : Pos} {f : ME} (h : cLc2 N c sc elt gs scope = some f) : PE X (.ListComp elt gs scope pos) (tE X f) := by
  obtain ⟨tg, iter, ifs, tg1, iter1, ifs1, own, fi, g, tv, fi1, g1, vs1, t, t1, fe, rfl, rfl, b1, b2, b3, b4, b5, b6, b7, b8, b9, b10, b11, b12⟩ := cLc2_get h
  exact zpe_lc2 C.calm (by rw [C.hN]; exact C.nd) (cI_ok S C b4) (blkC_fit C b1) b9 (fun s H A cl fp => cG_ok S (C.blk s H A cl fp) 4 b5) (fun s H A cl fp => cTests_ok S (C.blk s H A cl fp) b10) (fun s H A cl fp => cI_ok S (C.blk s H A cl fp) b6) (fun s H A cl fp => cG_ok S (C.blk s H A cl fp) 4 b7) (fun s H A cl fp => cTests_ok S (C.blk s H A cl fp) b11)
    (fun s H A cl fp => S.e (C.blk s H A cl fp) b12) (fold_ok b2) (fun env => fold_ok b3) b8
theorem cLcA_ok (S : CoOk k T N c) (C : Ctx k T N sc X) {elt : Expr} {gs : List Comprehension} {scope : Scope} {pos : Pos} {f : ME} (h : cLcA N c sc elt gs scope = some f) : PE X (.ListComp elt gs scope pos) (tE X f) := by
  unfold cLcA at h
  split at h
  · exact cLc2_ok S C h
  · exact cLc_ok S C h
theorem cKw_ok (S : CoOk k T N c) (C : Ctx k T N sc X) {pos : Pos} : ∀ {kws : List Keyword} {g : MOs × List Str}, cKw c sc kws = some g →
    PK X kws (tOps X g.1) ∧ (backToKw pos (keywordEach kws X.env)).all (·.1.isSome) = true ∧ (backToKw pos (keywordEach kws X.env)).filterMap (·.1) = g.2 ∧ (backToKw pos (keywordEach kws X.env)).any (·.1.isNone) = false
  | [], g, h => by cases h; exact ⟨zpk_nil, rfl, rfl, rfl⟩
  | ⟨some n, e, p⟩ :: kws, g, h => by
    obtain ⟨f, h1, h⟩ := bindS h
    obtain ⟨g2, h2, h⟩ := bindS h
    cases h
    obtain ⟨i1, i2, i3, i4⟩ := cKw_ok S C (pos := pos) h2
    refine ⟨zpk_cons (zpo_tv (S.e C h1)) i1, ?_, ?_, ?_⟩
    · show (true && _) = true
      rw [Bool.true_and]; exact i2
    · show n :: _ = n :: g2.2
      rw [← i3]; rfl
    · show (false || _) = false
      rw [Bool.false_or]; exact i4
  | ⟨none, e, p⟩ :: kws, g, h => by cases h
theorem cCallK_ok (S : CoOk k T N c) (C : Ctx k T N sc X) {x : Str} {es : List Expr} {kws : List Keyword} {p pos : Pos} {f : ME} (h : cCallK T c sc x es kws = some f) : PE X (.Call (.Name x p) es kws pos) (tE X f) := by
  unfold cCallK at h
  split at h
  · rename_i hg
    obtain ⟨g1, g2, g3⟩ := C.gl hg
    obtain ⟨F, h1, h⟩ := bindS h
    obtain ⟨fs, h2, h⟩ := bindS h
    obtain ⟨g, h3, h⟩ := bindS h
    obtain ⟨pm, h4, h⟩ := bindS h
    cases h
    obtain ⟨f0, fd, ps, m1, m2, m3, m4, m5⟩ := C.tab.fn x F h1
    obtain ⟨i1, i2⟩ := cTs_ok S C h2
    obtain ⟨k1, k2, k3, k4⟩ := cKw_ok S C (pos := pos) h3
    cases es with
    | nil =>
      cases h2
      exact zpe_callK0 m4 C.room g1 m1 m2 (m5 _ _ _ h4) k1 k2 k3 g2 k4
    | cons e es =>
      exact zpe_callK m4 C.room g1 m1 m2 (m5 _ _ _ h4) i1 k1 k2 k3 g2 (star_ok (by simp at i2; exact i2.1)) (plain_ok i2) k4
  · cases h
theorem cBlt_ok (S : CoOk k T N c) (C : Ctx k T N sc X) {x : Str} {es : List Expr} {p pos : Pos} {f : ME} (hg : isGl sc x = true) (h : cBlt N c sc x es = some f) : PE X (.Call (.Name x p) es [] pos) (tE X f) := by
  obtain ⟨g1, g2, g3⟩ := C.gl hg
  unfold cBlt at h
  split at h
  · rename_i e
    rw [decide_eq_true_eq] at e
    subst e
    split at h
    · rename_i a t p1
      split at h
      · rename_i hs
        obtain ⟨fo, h1, h⟩ := bindS h
        obtain ⟨Ts, h2, h⟩ := bindS h
        cases h
        unfold cTys at h2
        split at h2
        · rename_i hg2
          obtain ⟨T1, h3, h2⟩ := bindS h2
          obtain ⟨r, h4, h2⟩ := bindS h2
          cases h4
          cases h2
          obtain ⟨t1, t2⟩ := tyB_ok h3
          obtain ⟨q1, q2, q3⟩ := C.gl hg2
          have hm : X.mg t = none := by
            refine C.tab.blt t ?_
            unfold tyB at h3
            repeat' split at h3
            all_goals first
              | (rename_i e; rw [e]; decide)
              | cases h3
          exact zpe_isi1 t2 g1 C.bn (cO_ok S C h1) (pe_bltn q1 hm t1 (show RelV (.ty T1) (.type T1) from rfl) q3 q2) (star_ok hs) (star_ok rfl) (plain_ok rfl)
        · cases h2
      · cases h
    · rename_i a ts p1 p2
      split at h
      · rename_i hc
        rw [Bool.and_eq_true] at hc
        obtain ⟨fo, h1, h⟩ := bindS h
        obtain ⟨Ts, h2, h⟩ := bindS h
        cases h
        obtain ⟨i1, i2, i3, i4⟩ := cTys_ok C h2
        exact zpe_isiT i3 (by rw [i4]; exact hc.2) g1 C.bn (cO_ok S C h1) i1 (star_ok hc.1) (star_ok rfl) (plain_ok rfl)
      · cases h
    · cases h
  · split at h
    · cases h
    · rename_i hne
      obtain ⟨g, h1, h⟩ := bindS h
      obtain ⟨fs, h2, h⟩ := bindS h
      cases h
      obtain ⟨i1, i2⟩ := cOs_ok S C h2
      have hm : X.mg x = none := by
        refine C.tab.blt x ?_
        unfold bltB at h1
        split at h1
        · rename_i e; rw [e]; decide
        · unfold bltB0 at h1
          repeat' split at h1
          all_goals first
            | (rename_i e; rw [e]; decide)
            | cases h1
      cases es with
      | nil => exact absurd rfl hne
      | cons e es =>
        have i3 := i2
        simp only [List.all_cons, Bool.and_eq_true] at i2
        rcases bltB_ok (Ctx.hu0 C) C.calm h1 with ⟨id, b1, b2⟩ | ⟨id, b1, b2⟩
        · exact ⟨fun pins s σ H Q I hq => (pe_callB b2 g1 hm b1 i1 g3 g2 (star_ok i2.1) (plain_ok i2.2)).run pins s σ H Q I (tb_read hq)⟩
        · exact ⟨fun pins s σ H Q I hq => (pe_callTy b2 g1 hm b1 i1 g3 g2 (star_ok i2.1) (plain_ok i2.2)).run pins s σ H Q I (tb_read hq)⟩
theorem cCall_ok (S : CoOk k T N c) (C : Ctx k T N sc X) {x : Str} {es : List Expr} {p pos : Pos} {f : ME} (h : cCall T N c sc x es = some f) : PE X (.Call (.Name x p) es [] pos) (tE X f) := by
  unfold cCall at h
  split at h
  · rename_i hg
    obtain ⟨g1, g2, g3⟩ := C.gl hg
    split at h
    · rename_i F h1
      obtain ⟨fs, h2, h⟩ := bindS h
      cases h
      obtain ⟨f0, fd, ps, m1, m2, m3, m4, m5⟩ := C.tab.fn x F h1
      obtain ⟨i1, i2, i3⟩ := cAs_ok S C h2
      cases es with
      | nil => rw [i3 rfl]; exact zpe_call0 m4 C.room g1 m1 m2 m3 g2
      | cons e es =>
        simp only [List.all_cons, Bool.and_eq_true] at i2
        exact zpe_call m4 C.room g1 m1 m2 m3 i1 g2 (star_ok i2.1) (plain_ok i2.2)
    · split at h
      · rename_i hl
        rw [Bool.or_eq_true, decide_eq_true_eq, decide_eq_true_eq] at hl
        have hT : x = (if decide (x = ("list" : Str)) then ("list" : Str) else "tuple") := by
          rcases hl with e | e <;> (subst e; decide)
        have hm : X.mg x = none := by
          rcases hl with e | e <;> (subst e; exact C.bn)
        split at h
        · rename_i as hr
          unfold rngOf at hr
          split at hr
          · rename_i y p1 es1 pos1
            split at hr
            · rename_i hy
              cases hr
              rw [Bool.and_eq_true, decide_eq_true_eq] at hy
              obtain ⟨e, hy⟩ := hy
              subst e
              obtain ⟨q1, q2, q3⟩ := C.gl hy
              unfold cRg at h
              split at h
              · split at h
                · rename_i hs
                  obtain ⟨f1, h1, h⟩ := bindS h
                  cases h
                  exact zpe_rg1 hT C.calm g1 hm q1 C.bn (S.e C h1) (star_ok hs)
                · cases h
              · split at h
                · rename_i hs
                  rw [Bool.and_eq_true] at hs
                  obtain ⟨f1, h1, h⟩ := bindS h
                  obtain ⟨f2, h2, h⟩ := bindS h
                  cases h
                  exact zpe_rg2 hT C.calm g1 hm q1 C.bn (S.e C h1) (S.e C h2) (star_ok hs.1) (star_ok hs.2) (plain_ok (by simp [hs.2]))
                · cases h
              · cases h
            · cases hr
          · cases hr
        · exact cBlt_ok S C hg h
      · exact cBlt_ok S C hg h
  · cases h
theorem cMeth_ok (S : CoOk k T N c) (C : Ctx k T N sc X) {o : Expr} {m : Str} {es : List Expr} {apos pos : Pos} {f : ME} (h : cMeth N c sc o m es apos pos = some f) : PE X (.Call (.Attribute o m apos) es [] pos) (tE X f) := by
  unfold cMeth at h
  split at h
  · rename_i hl
    split at h
    · rename_i i hi
      have hv := isNm_var C hi
      have hb : ∀ m : Str, attributeBase o m X.env (eval o X.env) = eval o X.env := by
        obtain ⟨x, h1, h2⟩ := bindS hi
        intro m
        cases o <;> first
          | rfl
          | cases h1
      split at h
      · rename_i e
        rw [decide_eq_true_eq] at e
        subst e
        split at h
        · split at h
          · rename_i hs
            obtain ⟨g, h1, h⟩ := bindS h
            cases h
            exact zpe_app hv (S.e C h1) (hb _) (by rw [star_ok hs]; rfl) hl (star_ok hs) rfl
          · cases h
        · cases h
      · split at h
        · rename_i e
          rw [decide_eq_true_eq] at e
          subst e
          split at h
          · cases h
            exact zpe_pop hv (hb _) hl
          · split at h
            · rename_i hs
              obtain ⟨g, h1, h⟩ := bindS h
              cases h
              exact zpe_popAt hv (S.e C h1) (hb _) (by rw [star_ok hs]; rfl) hl (star_ok hs) rfl
            · cases h
          · cases h
        · cases h
    · cases h
  · cases h
end
end Z
namespace Z
open PySem PySem.Spec L2
open PyProof.Rows hiding St
section
variable {k : Nat} {T : Tab} {N : List Str} {sc : Scope} {X : Cx} {c : Co}
theorem Ctx.hu (C : Ctx k T N sc X) : X.A.units + 66 < cLine := by have := C.room.un; omega
theorem last_ok {op op' : CmpOp} {a b : Expr} (h : notSet b = true) : lastMarks [op, op'] [a, b] = false := by
  show behindInMarks op' b = false
  exact set_ok h
theorem cE_ok (S : CoOk k T N c) (C : Ctx k T N sc X) {e : Expr} {f : ME} (h : cE T N c sc e = some f) : PE X e (tE X f) := by
  unfold cE at h
  split at h
  · obtain ⟨d, h1, h⟩ := bindS h
    cases h
    exact cC_ok h1
  · split at h
    · rename_i i hi
      cases h
      exact zpe_var (C.var hi)
    · split at h
      · rename_i hg
        obtain ⟨g1, g2, g3⟩ := C.gl hg
        obtain ⟨d, h1, h⟩ := bindS h
        cases h
        obtain ⟨v, u, m1, m2, m3⟩ := C.tab.con _ d h1
        exact zpe_const (pe_glob g1 m1 m2 g2) m3
      · cases h
  · obtain ⟨g, h1, h⟩ := bindS h
    obtain ⟨fa, h2, h⟩ := bindS h
    obtain ⟨fb, h3, h⟩ := bindS h
    cases h
    exact zpe_bin (opB_ok h1) (cO_ok S C h2) (cO_ok S C h3)
  · obtain ⟨f1, h1, h⟩ := bindS h
    cases h
    exact zpe_not (S.e C h1)
  · obtain ⟨f1, h1, h⟩ := bindS h
    cases h
    exact zpe_un ud_neg (cO_ok S C h1)
  · exact pe_one (S.e C h)
  · obtain ⟨f1, h1, h⟩ := bindS h
    obtain ⟨f2, h2, h⟩ := bindS h
    cases h
    exact zpe_and (S.e C h1) (S.e C h2)
  · obtain ⟨f1, h1, h⟩ := bindS h
    obtain ⟨f2, h2, h⟩ := bindS h
    cases h
    exact zpe_or (S.e C h1) (S.e C h2)
  · obtain ⟨ft, h1, h⟩ := bindS h
    obtain ⟨fa, h2, h⟩ := bindS h
    obtain ⟨fb, h3, h⟩ := bindS h
    cases h
    exact zpe_if (S.b C h1) (S.e C h2) (S.e C h3)
  · split at h
    · rename_i hs
      obtain ⟨g, h1, h⟩ := bindS h
      obtain ⟨fa, h2, h⟩ := bindS h
      obtain ⟨fb, h3, h⟩ := bindS h
      cases h
      exact zpe_cmp (cmpB_ok C.hu h1) (cO_ok S C h2) (cO_ok S C h3) (set_ok hs)
    · cases h
  · split at h
    · rename_i hs
      obtain ⟨g, h1, h⟩ := bindS h
      obtain ⟨g', h2, h⟩ := bindS h
      obtain ⟨fa, h3, h⟩ := bindS h
      obtain ⟨fb, h4, h⟩ := bindS h
      obtain ⟨fd, h5, h⟩ := bindS h
      cases h
      exact zpe_chain (cmpB_ok C.hu h1) (cmpB_ok C.hu h2) (cO_ok S C h3) (cO_ok S C h4) (cO_ok S C h5) (last_ok hs)
    · cases h
  · obtain ⟨fa, h1, h⟩ := bindS h
    obtain ⟨fl, h2, h⟩ := bindS h
    obtain ⟨fh, h3, h⟩ := bindS h
    cases h
    exact zpe_slice (cO_ok S C h1) (cPart_ok S C h2) (cPart_ok S C h3)
  · obtain ⟨fa, h1, h⟩ := bindS h
    cases h
    exact zpe_rev (cO_ok S C h1)
  · obtain ⟨kvs, h1, h⟩ := bindS h
    split at h
    · rename_i hl
      cases h
      exact zpe_dic h1 (of_decide_eq_true hl)
    · cases h
  · split at h
    · rename_i hs
      obtain ⟨fa, h1, h⟩ := bindS h
      obtain ⟨fb, h2, h⟩ := bindS h
      cases h
      exact zpe_ix C.hu (cO_ok S C h1) (cO_ok S C h2) (slice_ok hs)
    · cases h
  · obtain ⟨fs, h1, h⟩ := bindS h
    cases h
    exact zpe_tup (cTs_ok S C h1).1
  · obtain ⟨fs, h1, h⟩ := bindS h
    cases h
    exact zpe_lst (cTs_ok S C h1).1
  · exact cLcA_ok S C h
  · exact cCall_ok S C h
  · exact cCallK_ok S C h
  · exact cMeth_ok S C h
  · cases h
theorem cB_ok (S : CoOk k T N c) (C : Ctx k T N sc X) {e : Expr} {f : MB} (h : cB N c sc e = some f) : PT X e (tT X f) ∧ ∀ op es pos, e = .BoolOp op es pos → PW X e (tT X f) := by
  unfold cB at h
  split at h
  · obtain ⟨f1, h1, h⟩ := bindS h
    cases h
    exact ⟨zpt_not (S.b C h1), fun _ _ _ e => by cases e⟩
  · rename_i op a pos
    have q : PW X (.BoolOp op [a] pos) (tT X f) := by
      cases op with
      | And => exact pw_and1 (S.b C h)
      | Or => exact pw_or1 (S.b C h)
    exact ⟨q.pt, fun _ _ _ _ => q⟩
  · obtain ⟨f1, h1, h⟩ := bindS h
    obtain ⟨f2, h2, h⟩ := bindS h
    cases h
    have q := zpw_and (S.b C h1) (S.w C h2)
    exact ⟨q.pt, fun _ _ _ _ => q⟩
  · obtain ⟨f1, h1, h⟩ := bindS h
    obtain ⟨f2, h2, h⟩ := bindS h
    cases h
    have q := zpw_or (S.b C h1) (S.w C h2)
    exact ⟨q.pt, fun _ _ _ _ => q⟩
  · split at h
    · rename_i hs
      obtain ⟨g, h1, h⟩ := bindS h
      obtain ⟨fa, h2, h⟩ := bindS h
      obtain ⟨fb, h3, h⟩ := bindS h
      cases h
      exact ⟨zpt_cmp (cmpB_ok C.hu h1) (cO_ok S C h2) (cO_ok S C h3) (set_ok hs), fun _ _ _ e => by cases e⟩
    · cases h
  · split at h
    · rename_i hs
      obtain ⟨g, h1, h⟩ := bindS h
      obtain ⟨g', h2, h⟩ := bindS h
      obtain ⟨fa, h3, h⟩ := bindS h
      obtain ⟨fb, h4, h⟩ := bindS h
      obtain ⟨fd, h5, h⟩ := bindS h
      cases h
      exact ⟨zpt_chain (cmpB_ok C.hu h1) (cmpB_ok C.hu h2) (cO_ok S C h3) (cO_ok S C h4) (cO_ok S C h5) (last_ok hs), fun _ _ _ e => by cases e⟩
    · cases h
  · obtain ⟨ft, h1, h⟩ := bindS h
    obtain ⟨fa, h2, h⟩ := bindS h
    obtain ⟨fb, h3, h⟩ := bindS h
    cases h
    exact ⟨zpt_if (S.b C h1) (S.b C h2) (S.b C h3), fun _ _ _ e => by cases e⟩
  · split at h
    · rename_i hs
      obtain ⟨fa, h1, h⟩ := bindS h
      cases h
      exact ⟨zpt_tru (cO_ok S C h1) (test_ok hs), fun _ _ _ e => by subst e; cases hs⟩
    · cases h
theorem co_ok : ∀ n : Nat, CoOk k T N (co T N n)
  | 0 => ⟨fun _ h => (nomatch h), fun _ h => (nomatch h), fun _ h => (nomatch h)⟩
  | n + 1 => ⟨fun C h => cE_ok (co_ok n) C h, fun C h => (cB_ok (co_ok n) C h).1, fun C h => (cB_ok (co_ok n) C h).2 _ _ _ rfl⟩
end
end Z
namespace Z
open PySem PySem.Spec L2
open PyProof.Rows hiding St

/-! ## statements -/
def sBk : SS := fun ρ => some (.bk, ρ)
def sCt : SS := fun ρ => some (.ct, ρ)
/-- the names that are stored side by side -/
def swK (kd : Str → Option NameKind) (ts vs : List Expr) : Option (Option (List Str)) :=
  if (!(ts.length == 2 || ts.length == 3) || vs.length != ts.length || false) = true then some none
  else if (vs.any fun | .Starred .. => true | _ => false) = true then some none
  else
    if (((ts.filterMap fun
      | .Name id pos => if kd id == some .local && pos.line == (ts.head?.map (·.pos.line)).getD 0 then some id else none
      | _ => none).length != ts.length) || ((ts.filterMap fun
      | .Name id pos => if kd id == some .local && pos.line == (ts.head?.map (·.pos.line)).getD 0 then some id else none
      | _ => none).eraseDups.length != (ts.filterMap fun
      | .Name id pos => if kd id == some .local && pos.line == (ts.head?.map (·.pos.line)).getD 0 then some id else none
      | _ => none).length)) = true then some none
    else if (vs.all (foldedForSure 8)) = true then some none
    else if (vs.all (constantsAlone 8)) = true then none
    else some (some (ts.filterMap fun
      | .Name id pos => if kd id == some .local && pos.line == (ts.head?.map (·.pos.line)).getD 0 then some id else none
      | _ => none))
def swN (sc : Scope) (ts vs : List Expr) : Option (Option (List Str)) := swK (fun x => sc.names.lookup x) ts vs
theorem swN_ok {sc : Scope} {ts vs : List Expr} {r : Option (List Str)} {env : Env} {kt k2 : Nat} {pt pt2 : Pos} (h : swN sc ts vs = some r) (hs : env.scope = sc) (hk : env.blockKind = .function) :
    swappedStores [.Tuple ts kt pt] (.Tuple vs k2 pt2) env = pure r := by
  have h : swK env.kindOf ts vs = some r := by
    have e : env.kindOf = fun x => sc.names.lookup x := by rw [← hs]; rfl
    rw [e]; exact h
  have e : (env.blockKind != ScopeKind.function) = false := by rw [hk]; rfl
  unfold swappedStores
  simp only [e]
  unfold swK at h
  split at h
  · rename_i h1
    cases h
    rw [if_pos h1]
  · rename_i h1
    rw [if_neg h1]
    split at h
    · rename_i h2
      cases h
      exact if_pos h2
    · rename_i h2
      refine (if_neg h2).trans ?_
      split at h
      · rename_i h3
        cases h
        exact if_pos h3
      · rename_i h3
        refine (if_neg h3).trans ?_
        split at h
        · rename_i h4
          cases h
          exact if_pos h4
        · rename_i h4
          refine (if_neg h4).trans ?_
          split at h
          · cases h
          · rename_i h5
            cases h
            exact if_neg h5
/-- a name's store of a list made by a comprehension swaps -/
def swC (sc : Scope) (t : Str) (p : Pos) (e : Expr) : Bool := match e with
  | .ListComp _ _ s q => decide (sc.names.lookup t = some .local) && p.line == q.line && !(s.names.any fun (n, k) => n == t && (k == .local || k == .cell))
  | _ => false
theorem swC_ok {sc : Scope} {t : Str} {p pos q : Pos} {elt : Expr} {gs : List Comprehension} {s : Scope} {env : Env} (hs : env.scope = sc) (hk : env.blockKind = .function) :
    swapsWith (.ListComp elt gs s q) (some (.Name t p)) pos.line env = pure (swC sc t p (.ListComp elt gs s q)) := by
  subst hs
  have e : (ScopeKind.function == ScopeKind.function) = true := by decide
  have e2 : (env.kindOf t == some NameKind.local) = decide (env.scope.names.lookup t = some .local) := by
    unfold Env.kindOf
    by_cases h : env.scope.names.lookup t = some .local
    · rw [h]; rfl
    · rw [decide_eq_false h]
      cases q : (env.scope.names.lookup t == some NameKind.local) with
      | false => rfl
      | true => exact absurd (by simpa using q) h
  unfold swapsWith swC
  simp only [hk, e, e2, Bool.true_and]
  rfl
section
variable (T : Tab) (N : List Str) (c : Co) (pr : List Nat) (sc : Scope)
def cSs (f : Stmt → Option SS) : List Stmt → Option SS
  | [] => some sNil
  | s :: r => (f s).bind fun a => (cSs f r).bind fun b => some (sSeq a b)
def cRvs (sc : Scope) : List Expr → Option MAs
  | [] => some aNil
  | e :: es => if notStar e then (c.e sc e).bind fun f => (cRvs sc es).bind fun g => some (aRv f g) else none
def locN (x : Str) : Option Nat := if decide (sc.names.lookup x = some .local) then locIx N sc x else none
/-- four names, a list among the values -/
def isLs : Expr → Bool
  | .List _ _ => true
  | _ => false
def isOw : Expr → Bool
  | .List _ _ => true
  | .Dict _ _ _ => true
  | .ListComp _ _ _ _ => true
  | _ => false
def areNm : List Expr → Bool
  | [] => true
  | .Name _ _ :: r => areNm r
  | _ => false
def par4 (ts vs : List Expr) : Bool := (decide (ts.length = 4) && vs.any isLs) || (decide (ts.length < 4) && decide (1 < ts.length) && (decide (ts.length = vs.length) && (areNm ts && vs.any isOw)))
/-- a name's place: local or a cell -/
def locA (x : Str) : Option Nat := if decide (sc.names.lookup x = some .local) || decide (sc.names.lookup x = some .cell) then locIx N sc x else none
/-- a store -/
def cAsg : Expr → Expr → Option SS
  | .Name x p, .ListComp elt gs s q => if swC sc x p (.ListComp elt gs s q) || (decide (sc.names.lookup x = some .local) || decide (sc.names.lookup x = some .cell)) then (locIx N sc x).bind fun i => (if swC sc x p (.ListComp elt gs s q) then cLcA N c sc elt gs s else c.e sc (.ListComp elt gs s q)).bind fun f => some (sSet pr i f) else none
  | .Name x p, e => if notComp e && (decide (sc.names.lookup x = some .local) || decide (sc.names.lookup x = some .cell)) then (locIx N sc x).bind fun i => (c.e sc e).bind fun f => some (sSet pr i f) else none
  | .Tuple ts a p, .Tuple vs b q => (swN sc ts vs).bind fun r => match r with
    | none => if par4 ts vs then (match ts, vs with
      | [.Name x _, .Name y _, .Name z _, .Name w _], [e1, e2, e3, e4] => (locN N sc x).bind fun i => (locN N sc y).bind fun j => (locN N sc z).bind fun l => (locN N sc w).bind fun m => (cRvs c sc [e1, e2, e3, e4]).bind fun f => some (sPar pr [i, j, l, m] f)
      | [.Name x _, .Name y _], [e1, e2] => (locA N sc x).bind fun i => (locA N sc y).bind fun j => (cRvs c sc [e1, e2]).bind fun f => some (sPar pr [i, j] f)
      | [.Name x _, .Name y _, .Name z _], [e1, e2, e3] => (locA N sc x).bind fun i => (locA N sc y).bind fun j => (locA N sc z).bind fun l => (cRvs c sc [e1, e2, e3]).bind fun f => some (sPar pr [i, j, l] f)
      | _, _ => none) else (c.e sc (.Tuple vs b q)).bind fun f => (cG N c pr sc 4 (.Tuple ts a p)).bind fun g => some (sAsg f g.1)
    | some _ => match ts, vs with
      | [.Name x _, .Name y _], [e1, e2] => (locN N sc x).bind fun i => (locN N sc y).bind fun j => if decide (i ≠ j) then (cRvs c sc [e1, e2]).bind fun f => some (sPar pr [i, j] f) else none
      | [.Name x _, .Name y _, .Name z _], [e1, e2, e3] => (locN N sc x).bind fun i => (locN N sc y).bind fun j => (locN N sc z).bind fun l => if decide (i ≠ j) && decide (i ≠ l) && decide (j ≠ l) then (cRvs c sc [e1, e2, e3]).bind fun f => some (sPar pr [i, j, l] f) else none
      | _, _ => none
  | .Tuple ts a p, e => if notComp e then (c.e sc e).bind fun f => (cG N c pr sc 4 (.Tuple ts a p)).bind fun g => some (sAsg f g.1) else none
  | .Subscript o i p, e => if notComp e then (c.e sc e).bind fun f => (cG N c pr sc 4 (.Subscript o i p)).bind fun g => some (sAsg f g.1) else none
  | _, _ => none
def cS (fuel : Nat) : Nat → Stmt → Option SS
  | 0, _ => none
  | n + 1, st => match st with
    | .Expr e _ => if notComp e then (c.e sc e).bind fun f => some (sDrop f) else none
    | .Pass _ => some sNil
    | .Break _ => some sBk
    | .Continue _ => some sCt
    | .Raise _ _ _ => some sBad
    | .Return none _ => some sRetN
    | .Return (some e) _ => match (isNm e).bind (locIx N sc) with
      | some i => some (sRetV pr i)
      | none => (c.e sc e).bind fun f => some (sRet f)
    | .If t as bs _ => (c.b sc t).bind fun ft => (cSs (cS fuel n) as).bind fun fa => (cSs (cS fuel n) bs).bind fun fb => some (sIf ft fa fb)
    | .While t as [] _ => (c.b sc t).bind fun ft => (cSs (cS fuel n) as).bind fun fa => some (whileN ft fa fuel)
    | .For tg it as [] _ => if notSet it then (cI c sc tg it).bind fun fi => (cG N c pr sc 4 tg).bind fun g => (cSs (cS fuel n) as).bind fun fa => some (sFor fi g.1 fa) else none
    | .Assign [tg] e _ => cAsg N c pr sc tg e
    | _ => none
end
section
variable {k : Nat} {T : Tab} {N : List Str} {sc : Scope} {X : Cx} {c : Co} {pr : List Nat} {pos : Pos}
theorem zs_bk : PS X (.Break pos) (tS X pr sBk) := by
  refine ⟨fun pins s σ H Dd I hq => ps_break.run pins s σ H Dd I ?_⟩
  obtain ⟨c, E, ρ, out, ρ', hK, hp, hR, hf, q⟩ := hq
  cases hf
  exact q σ H ⟨Stp.rfl, hR⟩
theorem zs_ct : PS X (.Continue pos) (tS X pr sCt) := by
  refine ⟨fun pins s σ H Dd I hq => ps_continue.run pins s σ H Dd I ?_⟩
  obtain ⟨c, E, ρ, out, ρ', hK, hp, hR, hf, q⟩ := hq
  cases hf
  exact q σ H ⟨Stp.rfl, hR⟩
end
end Z
namespace Z
open PySem PySem.Spec L2
open PyProof.Rows hiding St
section
variable {k : Nat} {T : Tab} {N : List Str} {sc : Scope} {X : Cx} {c : Co} {pr : List Nat} {pos : Pos}
structure CtS (k : Nat) (T : Tab) (N : List Str) (sc : Scope) (X : Cx) : Prop extends Ctx k T N sc X where
  hsc : X.env.scope = sc
  hbk : X.env.blockKind = .function
theorem cSs_ok {F : Stmt → Option SS} (ih : ∀ {st : Stmt} {s : SS}, F st = some s → PS X st (tS X pr s)) : ∀ {sts : List Stmt} {s : SS}, cSs F sts = some s → PSs X sts (tS X pr s)
  | [], s, h => by cases h; exact zs_nil
  | st :: sts, s, h => by
    obtain ⟨a, h1, h⟩ := bindS h
    obtain ⟨b, h2, h⟩ := bindS h
    cases h
    exact zs_cons (ih h1) (cSs_ok ih h2)
theorem cRvs_ok (S : CoOk k T N c) (C : Ctx k T N sc X) : ∀ {es : List Expr} {f : MAs}, cRvs c sc es = some f → PA X es (tAs X f)
  | [], f, h => by cases h; exact za_nil
  | e :: es, f, h => by
    unfold cRvs at h
    split at h
    · rename_i hs
      obtain ⟨g, h1, h⟩ := bindS h
      obtain ⟨g2, h2, h⟩ := bindS h
      cases h
      exact za_rv (S.e C h1) (cRvs_ok S C h2) (star_ok hs)
    · cases h
theorem locN_ok (C : Ctx k T N sc X) {x : Str} {i : Nat} (h : locN N sc x = some i) : X.N[i]? = some x ∧ X.env.scope.names.lookup x = some .local := by
  unfold locN at h
  split at h
  · rename_i e
    rw [decide_eq_true_eq] at e
    exact ⟨by rw [C.hN]; exact locIx_ix h, (C.fit x _ e).1 (by decide)⟩
  · cases h
theorem Ctx.hnd (C : Ctx k T N sc X) : X.N.Nodup := by rw [C.hN]; exact C.nd
theorem asgG {tg e : Expr} {f : ME} {g : SG} {tv : List Nat} (he : PE X e (tE X f)) (hg : PG X tg (tG X pr tv g)) (hn : notComp e = true) (hs : notStar tg = true) (hw : swappedStores [tg] e X.env = pure none) : PS X (.Assign [tg] e pos) (tS X pr (sAsg f g)) :=
  zs_asg he hg (swap_ok hn) hw (eachG_cons (es := []) hs)
theorem swK_names {ts vs : List Expr} {ns : List Str} (h : swN sc ts vs = some (some ns)) : ts.length ≤ 8 → ns.length = ts.length ∧ ns = ts.filterMap fun
      | .Name id pos => if sc.names.lookup id == some .local && pos.line == (ts.head?.map (·.pos.line)).getD 0 then some id else none
      | _ => none := by
  intro _
  unfold swN swK at h
  repeat' split at h
  all_goals first
    | (cases h; done)
    | (rename_i h3 _ _
       cases h
       rw [Bool.or_eq_true, not_or] at h3
       have q := h3.1
       rw [Bool.not_eq_true, bne_eq_false_iff_eq] at q
       exact ⟨q, rfl⟩)
theorem swN2 {x y : Str} {px py : Pos} {ns : List Str} {b : Str → Pos → Bool} (h : ns.length = [Expr.Name x px, Expr.Name y py].length) (e : ns = [Expr.Name x px, Expr.Name y py].filterMap fun
      | .Name id pos => if b id pos then some id else none
      | _ => none) : ns = [x, y] := by
  simp only [List.filterMap_cons, List.filterMap_nil] at e
  cases h1 : b x px <;> cases h2 : b y py <;> simp only [h1, h2, if_true, Bool.false_eq_true, if_false] at e <;> subst e <;> first
    | rfl
    | (simp at h)
theorem swN3 {x y z : Str} {px py pz : Pos} {ns : List Str} {b : Str → Pos → Bool} (h : ns.length = [Expr.Name x px, Expr.Name y py, Expr.Name z pz].length) (e : ns = [Expr.Name x px, Expr.Name y py, Expr.Name z pz].filterMap fun
      | .Name id pos => if b id pos then some id else none
      | _ => none) : ns = [x, y, z] := by
  simp only [List.filterMap_cons, List.filterMap_nil] at e
  cases h1 : b x px <;> cases h2 : b y py <;> cases h3 : b z pz <;> simp only [h1, h2, h3, if_true, Bool.false_eq_true, if_false] at e <;> subst e <;> first
    | rfl
    | (simp at h)
theorem locA_ok (C : CtS k T N sc X) {x : Str} {i : Nat} {p : Pos} (h : locA N sc x = some i) : PG X (.Name x p) (L2.gName i) := by
  unfold locA at h
  split at h
  · rename_i hk
    rw [Bool.or_eq_true, decide_eq_true_eq, decide_eq_true_eq] at hk
    exact C.toCtx.name h hk
  · cases h
theorem cAsg_ok (S : CoOk k T N c) (C : CtS k T N sc X) {tg e : Expr} {s : SS} (h : cAsg N c pr sc tg e = some s) : PS X (.Assign [tg] e pos) (tS X pr s) := by
  have nk : ∀ {x : Str} {i : Nat}, locIx N sc x = some i → (decide (sc.names.lookup x = some .local) || decide (sc.names.lookup x = some .cell)) = true → Loc X.env.scope x ∧ (X.fn x = true ∨ X.env.scope.names.lookup x = some .local) := fun {x i} hi hk => by
    rw [Bool.or_eq_true, decide_eq_true_eq, decide_eq_true_eq] at hk
    rcases hk with e | e
    · have q := (C.fit x _ e).1 (by decide)
      exact ⟨.inl q, .inr q⟩
    · exact ⟨.inr ((C.fit x _ e).1 (by decide)), .inl (C.fnc x e)⟩
  unfold cAsg at h
  split at h
  · rename_i x p elt gs s1 q
    split at h
    · rename_i hk
      obtain ⟨i, h1, h⟩ := bindS h
      obtain ⟨f, h2, h⟩ := bindS h
      cases h
      have hi : X.N[i]? = some x := by rw [C.hN]; exact locIx_ix h1
      have sw := swC_ok (sc := sc) (t := x) (p := p) (pos := pos) (q := q) (elt := elt) (gs := gs) (s := s1) C.hsc C.hbk
      cases hc : swC sc x p (.ListComp elt gs s1 q) with
      | true =>
        rw [hc] at sw
        rw [if_pos hc] at h2
        have lo : sc.names.lookup x = some .local := by
          have hc2 := hc
          unfold swC at hc2
          simp only [Bool.and_eq_true, decide_eq_true_eq] at hc2
          exact hc2.1.1
        unfold cLcA at h2
        split at h2
        · obtain ⟨tg, iter, ifs, tg1, iter1, ifs1, own, fi, g, tv, fi1, g1, vs1, t, t1, fe, eg, rfl, b1, b2, b3, b4, b5, b6, b7, b8, b9, b10, b11, b12⟩ := cLc2_get h2
          cases eg
          exact zs_setLc2 C.calm C.hnd hi ((C.fit x _ lo).1 (by decide)) sw (cI_ok S C.toCtx b4) (blkC_fit C.toCtx b1) b9 (fun s H A cl fp => cG_ok S (C.toCtx.blk s H A cl fp) 4 b5) (fun s H A cl fp => cTests_ok S (C.toCtx.blk s H A cl fp) b10) (fun s H A cl fp => cI_ok S (C.toCtx.blk s H A cl fp) b6)
            (fun s H A cl fp => cG_ok S (C.toCtx.blk s H A cl fp) 4 b7) (fun s H A cl fp => cTests_ok S (C.toCtx.blk s H A cl fp) b11) (fun s H A cl fp => S.e (C.toCtx.blk s H A cl fp) b12) (fold_ok b2) (fun env => fold_ok b3) b8
        · obtain ⟨tg, iter, ifs, own, fi, g, tv, t, fe, eg, rfl, g1, g2, g3, g4, g5, g6, g7⟩ := cLc_get h2
          cases eg
          exact zs_setLc C.calm C.hnd hi ((C.fit x _ lo).1 (by decide)) sw (cI_ok S C.toCtx g3) (blkC_fit C.toCtx g1) (fun s H A cl fp => cG_ok S (C.toCtx.blk s H A cl fp) 4 g4) (fun s H A cl fp => cTests_ok S (C.toCtx.blk s H A cl fp) g6) (fun s H A cl fp => S.e (C.toCtx.blk s H A cl fp) g7) (fold_ok g2) g5
      | false =>
        rw [hc] at sw
        rw [if_neg (by rw [hc]; decide)] at h2
        rw [hc, Bool.false_or] at hk
        obtain ⟨l1, l2⟩ := nk h1 hk
        exact zs_set' (ps_set C.hnd hi l1 (S.e C.toCtx h2) sw l2)
    · cases h
  · rename_i x p e hne
    split at h
    · rename_i hk
      rw [Bool.and_eq_true] at hk
      obtain ⟨i, h1, h⟩ := bindS h
      obtain ⟨f, h2, h⟩ := bindS h
      cases h
      obtain ⟨l1, l2⟩ := nk h1 hk.2
      exact zs_set' (ps_set C.hnd (by rw [C.hN]; exact locIx_ix h1) l1 (S.e C.toCtx h2) (swap_ok hk.1) l2)
    · cases h
  · rename_i ts a p vs b q
    obtain ⟨r, h1, h⟩ := bindS h
    have hw := swN_ok (kt := a) (k2 := b) (pt := p) (pt2 := q) h1 C.hsc C.hbk
    cases r with
    | none =>
     dsimp only at h
     split at h
     · split at h
       · rename_i x px y py z pz w pw e1 e2 e3 e4
         obtain ⟨i, g1, h⟩ := bindS h
         obtain ⟨j, g2, h⟩ := bindS h
         obtain ⟨l, g3, h⟩ := bindS h
         obtain ⟨m, g4, h⟩ := bindS h
         obtain ⟨f, g5, h⟩ := bindS h
         cases h
         obtain ⟨a1, a2⟩ := locN_ok C.toCtx g1
         obtain ⟨b1, b2⟩ := locN_ok C.toCtx g2
         obtain ⟨c1, c2⟩ := locN_ok C.toCtx g3
         obtain ⟨d1, d2⟩ := locN_ok C.toCtx g4
         exact zs_par4 C.calm C.hnd a1 b1 c1 d1 a2 b2 c2 d2 (cRvs_ok S C.toCtx g5) hw
       · rename_i x px y py e1 e2
         obtain ⟨i, g1, h⟩ := bindS h
         obtain ⟨j, g2, h⟩ := bindS h
         obtain ⟨f, g3, h⟩ := bindS h
         cases h
         exact zs_par2t C.calm (locA_ok C g1) (locA_ok C g2) (cRvs_ok S C.toCtx g3) hw
       · rename_i x px y py z pz e1 e2 e3
         obtain ⟨i, g1, h⟩ := bindS h
         obtain ⟨j, g2, h⟩ := bindS h
         obtain ⟨l, g3, h⟩ := bindS h
         obtain ⟨f, g4, h⟩ := bindS h
         cases h
         exact zs_par3t C.calm (locA_ok C g1) (locA_ok C g2) (locA_ok C g3) (cRvs_ok S C.toCtx g4) hw
       · cases h
     · obtain ⟨f, h2, h⟩ := bindS h
       obtain ⟨⟨g, tv⟩, h3, h⟩ := bindS h
       cases h
       exact asgG (S.e C.toCtx h2) (cG_ok S C.toCtx 4 h3) rfl rfl hw
    | some ns =>
      dsimp only at h
      split at h
      · rename_i x px y py e1 e2
        obtain ⟨i, g1, h⟩ := bindS h
        obtain ⟨j, g2, h⟩ := bindS h
        split at h
        · rename_i hd
          obtain ⟨f, g3, h⟩ := bindS h
          cases h
          obtain ⟨a1, a2⟩ := locN_ok C.toCtx g1
          obtain ⟨b1, b2⟩ := locN_ok C.toCtx g2
          refine zs_par C.calm C.hnd a1 b1 (of_decide_eq_true hd) a2 b2 (cRvs_ok S C.toCtx g3) ?_
          rw [hw]
          obtain ⟨e1, e2⟩ := swK_names h1 (by simp)
          rw [swN2 e1 e2]
        · cases h
      · rename_i x px y py z pz e1 e2 e3
        obtain ⟨i, g1, h⟩ := bindS h
        obtain ⟨j, g2, h⟩ := bindS h
        obtain ⟨l, g3, h⟩ := bindS h
        split at h
        · rename_i hd
          simp only [Bool.and_eq_true, decide_eq_true_eq] at hd
          obtain ⟨f, g4, h⟩ := bindS h
          cases h
          obtain ⟨a1, a2⟩ := locN_ok C.toCtx g1
          obtain ⟨b1, b2⟩ := locN_ok C.toCtx g2
          obtain ⟨c1, c2⟩ := locN_ok C.toCtx g3
          refine zs_par3 C.calm C.hnd a1 b1 c1 hd.1.1 hd.1.2 hd.2 a2 b2 c2 (cRvs_ok S C.toCtx g4) ?_
          rw [hw]
          obtain ⟨e1, e2⟩ := swK_names h1 (by simp)
          rw [swN3 e1 e2]
        · cases h
      · cases h
  · rename_i x1 x2 ts a p hne
    split at h
    · rename_i hn
      obtain ⟨f, h2, h⟩ := bindS h
      obtain ⟨⟨g, tv⟩, h3, h⟩ := bindS h
      cases h
      refine asgG (S.e C.toCtx h2) (cG_ok S C.toCtx 4 h3) hn rfl ?_
      cases e <;> first
        | rfl
        | exact (hne _ _ _ rfl).elim
    · cases h
  · rename_i o i p e
    split at h
    · rename_i hn
      obtain ⟨f, h2, h⟩ := bindS h
      obtain ⟨⟨g, tv⟩, h3, h⟩ := bindS h
      cases h
      refine asgG (S.e C.toCtx h2) (cG_ok S C.toCtx 4 h3) hn rfl ?_
      cases e <;> rfl
    · cases h
  · cases h
theorem cS_ok (S : CoOk k T N c) (C : CtS k T N sc X) {fuel : Nat} : ∀ (n : Nat) {st : Stmt} {s : SS}, cS N c pr sc fuel n st = some s → PS X st (tS X pr s) := by
  intro n
  induction n with
  | zero => intro st s h; cases h
  | succ n ih =>
    intro st s h
    unfold cS at h
    split at h
    · split at h
      · rename_i hn
        obtain ⟨f, h1, h⟩ := bindS h
        cases h
        exact zs_drop (S.e C.toCtx h1) (swap_ok hn)
      · cases h
    · cases h; exact zs_pass
    · cases h; exact zs_bk
    · cases h; exact zs_ct
    · cases h; exact zs_bad
    · cases h; exact zs_retN
    · split at h
      · rename_i i hi
        cases h
        exact zs_retV (isNm_var C.toCtx hi)
      · obtain ⟨f, h1, h⟩ := bindS h
        cases h
        exact zs_ret (S.e C.toCtx h1)
    · obtain ⟨ft, h1, h⟩ := bindS h
      obtain ⟨fa, h2, h⟩ := bindS h
      obtain ⟨fb, h3, h⟩ := bindS h
      cases h
      exact zs_if (S.b C.toCtx h1) (cSs_ok (fun h => ih h) h2) (cSs_ok (fun h => ih h) h3)
    · obtain ⟨ft, h1, h⟩ := bindS h
      obtain ⟨fa, h2, h⟩ := bindS h
      cases h
      exact zs_while C.pass (S.b C.toCtx h1) (cSs_ok (fun h => ih h) h2)
    · split at h
      · rename_i hn
        obtain ⟨fi, h1, h⟩ := bindS h
        obtain ⟨⟨g, tv⟩, h2, h⟩ := bindS h
        obtain ⟨fa, h3, h⟩ := bindS h
        cases h
        exact zs_for C.pass C.calm (cI_ok S C.toCtx h1) (cG_ok S C.toCtx 4 h2) (cSs_ok (fun h => ih h) h3) (fold_ok hn)
      · cases h
    · exact cAsg_ok S C h
    · cases h
end
end Z
namespace Z
open PySem PySem.Spec L2
open PyProof.Rows hiding St

/-! ## tables, defs, the law's end -/
def Tab.nil : Tab := ⟨fun _ => none, fun _ => none, fun _ _ _ => none⟩
def Tab.add (T : Tab) (x : Str) (F : FnS) (kw : Nat → List Str → Option (List Nat)) : Tab := ⟨fun y => if y = x then some F else T.fn y, T.con, fun y n ks => if y = x then kw n ks else T.kw y n ks⟩
def Tab.put (T : Tab) (x : Str) (d : D) : Tab := ⟨T.fn, fun y => if y = x then some d else T.con y, T.kw⟩
def noKw : Nat → List Str → Option (List Nat) := fun _ _ => none
section
variable {k : Nat} {T : Tab} {P : Program} {w : World} {K : PySem.W.Frag} {mg : Str → Option Value} {base : Heap}
theorem TabOk.nil (h : ∀ x ∈ bltNames, mg x = none) : TabOk k .nil P w K mg base := ⟨fun _ _ h => (nomatch h), fun _ _ h => (nomatch h), h⟩
theorem TabOk.mono {j : Nat} (t : TabOk k T P w K mg base) (h : k ≤ j) : TabOk j T P w K mg base :=
  ⟨fun x F e => let ⟨f, fd, ps, h1, h2, h3, h4, h5⟩ := t.fn x F e; ⟨f, fd, ps, h1, h2, h3, h4.mono h, h5⟩, t.con, t.blt⟩
theorem TabOk.add (t : TabOk k T P w K mg base) {x : Str} {F : FnS} {kw : Nat → List Str → Option (List Nat)} {f : Addr} {fd : FuncData} {ps : List Str} (hm : mg x = some (.ref f)) (hk : PySem.W.keepIn K (.ref f) = true) (hb : Binds K fd ps []) (hF : FnOk P w K mg base CX0 k f fd ps (spF K F))
    (hw : ∀ n ks pm, kw n ks = some pm → KwOk K fd ps ks n pm) : TabOk k (T.add x F kw) P w K mg base := by
  refine ⟨fun y G e => ?_, t.con, t.blt⟩
  have e : (if y = x then some F else T.fn y) = some G := e
  split at e
  · rename_i q
    cases e
    subst q
    refine ⟨f, fd, ps, hm, hk, hb, hF, fun n ks pm q => hw n ks pm ?_⟩
    have q : (if y = y then kw n ks else T.kw y n ks) = some pm := q
    rw [if_pos rfl] at q
    exact q
  · rename_i q
    obtain ⟨f', fd', ps', h1, h2, h3, h4, h5⟩ := t.fn y G e
    refine ⟨f', fd', ps', h1, h2, h3, h4, fun n ks pm q' => h5 n ks pm ?_⟩
    have q' : (if y = x then kw n ks else T.kw y n ks) = some pm := q'
    rw [if_neg q] at q'
    exact q'
theorem TabOk.put (t : TabOk k T P w K mg base) {x : Str} {d : D} {v : V} {u : Value} (hm : mg x = some u) (r : RelV v u) (hr : ∀ H O, Rep K H O d v) : TabOk k (T.put x d) P w K mg base := by
  refine ⟨t.fn, fun y e h => ?_, t.blt⟩
  have h : (if y = x then some d else T.con y) = some e := h
  split at h
  · rename_i q
    cases h
    subst q
    exact ⟨v, u, hm, r, hr⟩
  · exact t.con y e h
theorem TabOk.putI (t : TabOk k T P w K mg base) {x : Str} {i : Int} (h : ∃ tk, mg x = some (.int i tk)) : TabOk k (T.put x (.int i)) P w K mg base := by
  obtain ⟨tk, h⟩ := h
  exact t.put (v := .int i) h ⟨tk, rfl⟩ fun _ _ => .int i
theorem TabOk.putS (t : TabOk k T P w K mg base) {x : Str} {z : Str} (h : ∃ tk, mg x = some (.str z tk)) (hz : PyData.strOk z = true) : TabOk k (T.put x (.str z)) P w K mg base := by
  obtain ⟨tk, h⟩ := h
  exact t.put (v := .str z) h ⟨tk, rfl⟩ fun _ _ => .str z hz
theorem def_ok {x qual : Str} {st : Stmt} {f : Addr} {fd : FuncData} {N ps : List Str} {mask : List Bool} {body : SS} {m n fuel : Nat} (t : TabOk k T P w K mg base) (F : Fun K x qual st f fd) (S : FnScope N ps (defScope st)) (hm : mask.length = ps.length) (hN : ps.length ≤ N.length)
    (hc : cSs (cS N (co T N m) (prOf 0 mask) (defScope st) fuel n) (defBody st) = some body) : FnOk P w K mg base CX0 (k + 1) f fd ps (spF K ⟨mask, runF N.length mask body⟩) := by
  refine zfn F S hm hN fun cdv A outer s H E hr => ?_
  have C : CtS k T N (defScope st) (cxOf CX0 P w K mg base N qual (defScope st) f cdv A outer s H E).nox := by
    refine ⟨⟨rfl, S.nd, rfl, hr, PassesOwn.never, fun x kd h => ⟨fun _ => h, fun e => .inl (e ▸ h)⟩, fun _ _ => rfl, t⟩, rfl, ?_⟩
    show (if (defScope st).kind.isAnnotationScope then ScopeKind.function else (defScope st).kind) = _
    rw [S.kind]; rfl
  exact cSs_ok (fun h => cS_ok (co_ok m) C n h) hc
/-- the law's argument -/
theorem sp_script {F : FnS} {H : Hp} {a : Addr} {ns : List Int} {Q : VK} {E : XK} (hm : F.mask = [false]) (hr : F.run [.list (ns.map .int)] = some (.v (.bool true), [])) (hS : SqL K H a (ns.map V.int)) (hQ : ∀ H', Q (.bl true) H') : spF K F [.ref a] H Q E := by
  have la : LA K H (fun _ => False) a (ns.map V.int) := by
    rcases hS with h | h
    · exact .inl ⟨h, fun y => y⟩
    · exact .inr (.inr h)
  have rs : Reps K H (fun _ => False) (ns.map .int) (ns.map V.int) := by
    clear hr hS la
    induction ns with
    | nil => exact .nil
    | cons n ns ih => exact .cons (.int n) ih
  refine ⟨fun _ => False, [.list (ns.map .int)], [], .v (.bool true), [], by rw [hm]; rfl, hr, (fun b h => h.elim), by rw [hm]; exact ⟨.lst la rs, True.intro⟩, List.nodup_nil, (fun a h => by cases h), fun z H' p => ?_⟩
  obtain ⟨_, _, p, _⟩ := p
  cases p
  exact hQ H'
theorem fun_of {x qual : Str} {st : Stmt} {f : Addr} {fd : FuncData} {kws : List (Str × V)} (F : FunD K x qual (defArgs st) (defBody st) (defScope st) [] kws f fd) : Fun K x qual st f fd := by
  obtain ⟨oc, od, dV, kV, doc, pm, an, cdv, ct, osl, e, l, c, hd, _⟩ := F.ex
  rcases hd with ⟨_, e2⟩ | ⟨e2, _⟩
  · subst e2
    exact ⟨⟨oc, od, kV, doc, pm, an, cdv, ct, osl, e, l, c⟩, F.kp⟩
  · exact absurd rfl e2
end
end Z
namespace Z
open PySem PySem.Spec L2
open PyProof.Rows hiding St
section
variable {k : Nat} {T : Tab} {P : Program} {w : World} {K : PySem.W.Frag} {mg : Str → Option Value} {base : Heap}
theorem KwOk.of {x qual : Str} {st : Stmt} {f : Addr} {fd : FuncData} {ps ks : List Str} {n : Nat} {pm : List Nat} (F : Fun K x qual st f fd)
    (h : ∀ (kV doc pm' : Value) (an : Option Addr) (cdv ct : Value) (us ws xs : List Value), us.length = n → ws.length = ks.length → permL (us ++ ws) pm = some xs →
      bindArgs (PySem.W.fnOf x qual (defArgs st) (defBody st) (defScope st) .none kV doc pm' an cdv ct) ⟨us, ks.zip ws⟩ = pure (ps.zip xs)) : KwOk K fd ps ks n pm := by
  obtain ⟨oc, od, kV, doc, pm', an, cdv, ct, osl, rfl, lk, hcd⟩ := F.ex
  exact ⟨fun s us ws xs _ h1 h2 _ h4 => .of_eq (h kV doc pm' an cdv ct us ws xs h1 h4 h2)⟩
theorem sp_none {mask : List Bool} {vs : List V} {H : Hp} {Q : VK} {E : XK} (h : spF K ⟨mask, fun _ => none⟩ vs H Q E) : False := by
  obtain ⟨O, ds, ms, rv, outs, _, h, _⟩ := h
  cases h
theorem fn_none {f : Addr} {fd : FuncData} {ps : List Str} {mask : List Bool} : FnOk P w K mg base CX0 k f fd ps (spF K ⟨mask, fun _ => none⟩) :=
  ⟨fun _ _ _ _ h => (sp_none h).elim, fun _ _ _ _ _ _ _ _ _ _ _ _ _ h => (sp_none h).elim⟩
end
end Z
namespace Z
open PySem PySem.Spec L2
open PyProof.Rows hiding St

/-! ## the evaluator's functions applied: for simp -/
section
variable {ρ : Rho}
@[simp] theorem x_eC (d : D) : eC d ρ = some (.v d, ρ) := rfl
@[simp] theorem x_d1 (d : D) : RV.d (.v d) = d := rfl
@[simp] theorem x_d2 (d : D) : RV.d (.o d) = d := rfl
@[simp] theorem x_eVar (i : Nat) : eVar i ρ = match ρ[i]? with
  | some (some (.v d)) => some (.v d, ρ)
  | some (some (.o d)) => some (.v d, ρ.set i (some (.v d)))
  | _ => none := rfl
@[simp] theorem x_slot (i : Nat) : slot ρ i = match ρ[i]? with
  | some (some r) => some r.d
  | _ => none := rfl
@[simp] theorem x_oSl (i : Nat) : oSl i ρ = (slot ρ i).bind fun _ => some (.sl i, ρ) := rfl
@[simp] theorem x_oTv (f : ME) : oTv f ρ = (f ρ).bind fun r => some (.tv r.1.d, r.2) := rfl
@[simp] theorem x_get1 (d : D) : Op.get ρ (.tv d) = some d := rfl
@[simp] theorem x_get2 (i : Nat) : Op.get ρ (.sl i) = slot ρ i := rfl
@[simp] theorem x_eOp1 (g : D → Option RV) (fa : MO) : eOp1 g fa ρ = (fa ρ).bind fun r => (r.1.get r.2).bind fun x => (g x).bind fun z => some (z, r.2) := rfl
@[simp] theorem x_eOp2 (g : D → D → Option RV) (fa fb : MO) : eOp2 g fa fb ρ = (fa ρ).bind fun r => (fb r.2).bind fun s => (r.1.get s.2).bind fun x => (s.1.get s.2).bind fun y => (g x y).bind fun z => some (z, s.2) := rfl
@[simp] theorem x_osNil : osNil ρ = some ([], ρ) := rfl
@[simp] theorem x_osCons (f : MO) (g : MOs) : osCons f g ρ = (f ρ).bind fun r => (g r.2).bind fun s => some (r.1 :: s.1, s.2) := rfl
@[simp] theorem x_eB (g : List D → Option RV) (fs : MOs) : eB g fs ρ = (fs ρ).bind fun r => (getAll r.2 r.1).bind fun xs => (g xs).bind fun z => some (z, r.2) := rfl
@[simp] theorem x_getAll0 : getAll ρ [] = some [] := rfl
@[simp] theorem x_getAll1 (p : Op) (ps : List Op) : getAll ρ (p :: ps) = match p.get ρ, getAll ρ ps with
    | some d, some ds => some (d :: ds)
    | _, _ => none := rfl
@[simp] theorem x_tvs0 : tvs [] = some [] := rfl
@[simp] theorem x_tvs1 (d : D) (r : List Op) : tvs (.tv d :: r) = (tvs r).bind fun ds => some (d :: ds) := rfl
@[simp] theorem x_eTup (fs : MOs) : eTup fs ρ = (fs ρ).bind fun r => (tvs r.1).bind fun ds => if szb ds.length then some (.v (.tuple ds), r.2) else none := rfl
@[simp] theorem x_eLst (fs : MOs) : eLst fs ρ = (fs ρ).bind fun r => (tvs r.1).bind fun ds => if szb ds.length then some (.o (.list ds), r.2) else none := rfl
@[simp] theorem x_bTru (fo : MO) : bTru fo ρ = (fo ρ).bind fun r => (r.1.get r.2).bind fun x => (truD x).bind fun b => some (b, r.2) := rfl
@[simp] theorem x_asB (b : Bool) : asB (.v (.bool b)) = some b := rfl
@[simp] theorem x_asI (i : Int) : asI (.v (.int i)) = some i := rfl
@[simp] theorem x_bOp2 (g : D → D → Option RV) (fa fb : MO) : bOp2 g fa fb ρ = (eOp2 g fa fb ρ).bind fun r => (asB r.1).bind fun b => some (b, r.2) := rfl
@[simp] theorem x_bNot (f : MB) : bNot f ρ = (f ρ).bind fun r => some (!r.1, r.2) := rfl
@[simp] theorem x_bAnd (f g : MB) : bAnd f g ρ = (f ρ).bind fun r => if r.1 then g r.2 else some (false, r.2) := rfl
@[simp] theorem x_bOr (f g : MB) : bOr f g ρ = (f ρ).bind fun r => if r.1 then some (true, r.2) else g r.2 := rfl
@[simp] theorem x_bIf (t f g : MB) : bIf t f g ρ = (t ρ).bind fun r => if r.1 then f r.2 else g r.2 := rfl
@[simp] theorem x_eAnd (f g : ME) : eAnd f g ρ = (f ρ).bind fun r => (asB r.1).bind fun b => if b then g r.2 else some (.v (.bool false), r.2) := rfl
@[simp] theorem x_eOr (f g : ME) : eOr f g ρ = (f ρ).bind fun r => (asB r.1).bind fun b => if b then some (.v (.bool true), r.2) else g r.2 := rfl
@[simp] theorem x_eNot (f : ME) : eNot f ρ = (f ρ).bind fun r => (asB r.1).bind fun b => some (.v (.bool (!b)), r.2) := rfl
@[simp] theorem x_eIf (t : MB) (f g : ME) : eIf t f g ρ = (t ρ).bind fun r => if r.1 then f r.2 else g r.2 := rfl
@[simp] theorem x_eChain (g g' : D → D → Option RV) (fa fb fc : MO) : eChain g g' fa fb fc ρ = (fa ρ).bind fun r => (fb r.2).bind fun s => (r.1.get s.2).bind fun x => (s.1.get s.2).bind fun y => (g x y).bind fun z => (asB z).bind fun b =>
  if b then (fc s.2).bind fun t => (s.1.get t.2).bind fun y' => (t.1.get t.2).bind fun w => (g' y' w).bind fun u => some (u, t.2) else some (.v (.bool false), s.2) := rfl
@[simp] theorem x_bChain (g g' : D → D → Option RV) (fa fb fc : MO) : bChain g g' fa fb fc ρ = (eChain g g' fa fb fc ρ).bind fun r => (asB r.1).bind fun b => some (b, r.2) := rfl
@[simp] theorem x_iNo : iNo ρ = some (none, ρ) := rfl
@[simp] theorem x_iSome (f : ME) : iSome f ρ = (f ρ).bind fun r => (asI r.1).bind fun i => some (some i, r.2) := rfl
@[simp] theorem x_eSl (fx : MO) (fl fh : MI) : eSl fx fl fh ρ = (fx ρ).bind fun r => (fl r.2).bind fun l => (fh l.2).bind fun h => (r.1.get h.2).bind fun x => (slD x l.1 h.1).bind fun z => some (z, h.2) := rfl
@[simp] theorem x_eIsi (Ts : List String) (fo : MO) : eIsi Ts fo ρ = (fo ρ).bind fun r => (r.1.get r.2).bind fun d => some (.v (.bool (isiD Ts d)), r.2) := rfl
@[simp] theorem x_sNil : sNil ρ = some (.nx, ρ) := rfl
@[simp] theorem x_sSeq (s t : SS) : sSeq s t ρ = (s ρ).bind fun r => match r.1 with
  | .nx => t r.2
  | o => some (o, r.2) := rfl
@[simp] theorem x_sDrop (f : ME) : sDrop f ρ = (f ρ).bind fun r => some (.nx, r.2) := rfl
@[simp] theorem x_sSet (pr : List Nat) (i : Nat) (f : ME) : sSet pr i f ρ = if pr.contains i then none else (f ρ).bind fun r => some (.nx, r.2.set i (some r.1)) := rfl
@[simp] theorem x_sRet (f : ME) : sRet f ρ = (f ρ).bind fun r => some (.rt r.1, r.2) := rfl
@[simp] theorem x_sRetV (pr : List Nat) (i : Nat) : sRetV pr i ρ = match ρ[i]? with
  | some (some (.v d)) => some (.rt (.v d), ρ)
  | some (some (.o d)) => if pr.contains i || !pr.all (ownAt ρ) then none else some (.rt (.o d), ρ.set i none)
  | _ => none := rfl
@[simp] theorem x_sRetN : sRetN ρ = some (.rt (.v .none), ρ) := rfl
@[simp] theorem x_sIf (t : MB) (a b : SS) : sIf t a b ρ = (t ρ).bind fun r => if r.1 then a r.2 else b r.2 := rfl
@[simp] theorem x_sBad : sBad ρ = none := rfl
@[simp] theorem x_sBk : sBk ρ = some (.bk, ρ) := rfl
@[simp] theorem x_sCt : sCt ρ = some (.ct, ρ) := rfl
@[simp] theorem x_gN (pr : List Nat) (i : Nat) (d : D) : gN pr i d ρ = if pr.contains i then none else some (ρ.set i (some (.v d))) := rfl
@[simp] theorem x_gNil (ds : List D) : gNil ds ρ = match ds with
  | [] => some ρ
  | _ => none := rfl
@[simp] theorem x_gCons (g : SG) (h : SGs) (d : D) (r : List D) : gCons g h (d :: r) ρ = (g d ρ).bind fun ρ1 => h r ρ1 := rfl
@[simp] theorem x_gTn (n : Nat) (h : SGs) (ds : List D) : gTn n h (.tuple ds) ρ = if ds.length = n then h ds ρ else none := rfl
@[simp] theorem x_gIx (o : Nat) (fi : ME) (d : D) : gIx o fi d ρ = (slot ρ o).bind fun _ => (fi ρ).bind fun r => (asV r.1).bind fun i => match r.2[o]? with
  | some (some (.o l)) => (setD l i d).bind fun l' => some (r.2.set o (some (.o l')))
  | _ => none := rfl
@[simp] theorem x_asV (d : D) : asV (.v d) = some d := rfl
@[simp] theorem x_setD (ds : List D) (i : Int) (x : D) : setD (.list ds) (.int i) x = (ixN ds.length i).bind fun j => some (.list (ds.set j x)) := rfl
@[simp] theorem x_sAsg (f : ME) (g : SG) : sAsg f g ρ = (f ρ).bind fun r => (g r.1.d r.2).bind fun ρ2 => some (.nx, ρ2) := rfl
@[simp] theorem x_aNil : aNil ρ = some ([], ρ) := rfl
@[simp] theorem x_aTv (f : ME) (g : MAs) : aTv f g ρ = (f ρ).bind fun r => (g r.2).bind fun s => some (.tv r.1.d :: s.1, s.2) := rfl
@[simp] theorem x_aSl (i : Nat) (g : MAs) : aSl i g ρ = (slot ρ i).bind fun _ => (g ρ).bind fun s => some (.sl i :: s.1, s.2) := rfl
@[simp] theorem x_aOw (f : ME) (g : MAs) : aOw f g ρ = (f ρ).bind fun r => match r.1 with
  | .o d => (g r.2).bind fun s => some (.ow d :: s.1, s.2)
  | _ => none := rfl
@[simp] theorem x_aRv (f : ME) (g : MAs) : aRv f g ρ = (f ρ).bind fun r => (g r.2).bind fun s => some (rvA r.1 :: s.1, s.2) := rfl
@[simp] theorem x_rvA1 (d : D) : rvA (.v d) = .tv d := rfl
@[simp] theorem x_rvA2 (d : D) : rvA (.o d) = .ow d := rfl
@[simp] theorem x_rvsOf0 : rvsOf [] = some [] := rfl
@[simp] theorem x_rvsOf1 (d : D) (r : List AR) : rvsOf (.tv d :: r) = (rvsOf r).bind fun rs => some (.v d :: rs) := rfl
@[simp] theorem x_rvsOf2 (d : D) (r : List AR) : rvsOf (.ow d :: r) = (rvsOf r).bind fun rs => some (.o d :: rs) := rfl
@[simp] theorem x_putRs0 : putRs [] [] ρ = some ρ := rfl
@[simp] theorem x_putRs1 (i : Nat) (is : List Nat) (rv : RV) (rvs : List RV) : putRs (i :: is) (rv :: rvs) ρ = putRs is rvs (ρ.set i (some rv)) := rfl
@[simp] theorem x_sPar (pr is : List Nat) (f : MAs) : sPar pr is f ρ = if is.any pr.contains then none else (f ρ).bind fun r => (rvsOf r.1).bind fun rvs => (putRs is rvs r.2).bind fun ρ2 => some (.nx, ρ2) := rfl
@[simp] theorem x_argsD0 : argsD [] [] ρ = some [] := rfl
@[simp] theorem x_argsD1 (ms : List Bool) (d : D) (ps : List AR) : argsD (false :: ms) (.tv d :: ps) ρ = (argsD ms ps ρ).bind fun ds => some (d :: ds) := rfl
@[simp] theorem x_argsD2 (ms : List Bool) (i : Nat) (ps : List AR) : argsD (true :: ms) (.sl i :: ps) ρ = match ρ[i]? with
    | some (some (.o d)) => (argsD ms ps ρ).bind fun ds => some (d :: ds)
    | _ => none := rfl
@[simp] theorem x_argsD3 (ms : List Bool) (d : D) (ps : List AR) : argsD (true :: ms) (.ow d :: ps) ρ = (argsD ms ps ρ).bind fun ds => some (d :: ds) := rfl
@[simp] theorem x_own0 : ownIx [] [] = [] := rfl
@[simp] theorem x_own1 (ms : List Bool) (p : AR) (ps : List AR) : ownIx (false :: ms) (p :: ps) = ownIx ms ps := rfl
@[simp] theorem x_own2 (ms : List Bool) (i : Nat) (ps : List AR) : ownIx (true :: ms) (.sl i :: ps) = i :: ownIx ms ps := rfl
@[simp] theorem x_own3 (ms : List Bool) (d : D) (ps : List AR) : ownIx (true :: ms) (.ow d :: ps) = ownIx ms ps := rfl
@[simp] theorem x_putO0 : putO [] [] [] ρ = some ρ := rfl
@[simp] theorem x_putO1 (ms : List Bool) (p : AR) (ps : List AR) (os : List D) : putO (false :: ms) (p :: ps) os ρ = putO ms ps os ρ := rfl
@[simp] theorem x_putO2 (ms : List Bool) (i : Nat) (ps : List AR) (d : D) (os : List D) : putO (true :: ms) (.sl i :: ps) (d :: os) ρ = putO ms ps os (ρ.set i (some (.o d))) := rfl
@[simp] theorem x_putO3 (ms : List Bool) (e : D) (ps : List AR) (d : D) (os : List D) : putO (true :: ms) (.ow e :: ps) (d :: os) ρ = putO ms ps os ρ := rfl
@[simp] theorem x_nodup0 : nodupN [] = true := rfl
@[simp] theorem x_nodup1 (i : Nat) : nodupN [i] = true := by simp [nodupN]
@[simp] theorem x_call (F : FnS) (fs : MAs) : eCall F fs ρ = (fs ρ).bind fun x => (argsD F.mask x.1 x.2).bind fun ds => if nodupN (ownIx F.mask x.1) then (F.run ds).bind fun w => (putO F.mask x.1 w.2 x.2).bind fun ρ2 => some (w.1, ρ2) else none := rfl
@[simp] theorem x_callK (F : FnS) (n m : Nat) (pm : List Nat) (fs gs : MOs) : eCallK F n m pm fs gs ρ = (fs ρ).bind fun r => (tvs r.1).bind fun ds => (gs r.2).bind fun s => (tvs s.1).bind fun es => (permL (ds ++ es) pm).bind fun xs =>
  if F.mask.all (fun b => !b) && decide (xs.length = F.mask.length) && decide (ds.length = n) && decide (es.length = m) then (F.run xs).bind fun w => some (w.1, s.2) else none := rfl
@[simp] theorem x_perm0 {α : Type} (xs : List α) : permL xs [] = some [] := rfl
@[simp] theorem x_perm1 {α : Type} (xs : List α) (i : Nat) (is : List Nat) : permL xs (i :: is) = xs[i]?.bind fun x => (permL xs is).bind fun r => some (x :: r) := rfl
@[simp] theorem x_init0 : initR [] [] = [] := rfl
@[simp] theorem x_init1 (ms : List Bool) (d : D) (ds : List D) : initR (false :: ms) (d :: ds) = some (.v d) :: initR ms ds := rfl
@[simp] theorem x_init2 (ms : List Bool) (d : D) (ds : List D) : initR (true :: ms) (d :: ds) = some (.o d) :: initR ms ds := rfl
@[simp] theorem x_pr0 (n : Nat) : prOf n [] = [] := rfl
@[simp] theorem x_pr1 (n : Nat) (ms : List Bool) : prOf n (true :: ms) = n :: prOf (n + 1) ms := rfl
@[simp] theorem x_pr2 (n : Nat) (ms : List Bool) : prOf n (false :: ms) = prOf (n + 1) ms := rfl
@[simp] theorem x_outs0 : outsOf ρ [] = some [] := rfl
@[simp] theorem x_outs1 (i : Nat) (is : List Nat) : outsOf ρ (i :: is) = match ρ[i]? with
    | some (some (.o d)) => (outsOf ρ is).bind fun ds => some (d :: ds)
    | _ => none := rfl
theorem x_run (n : Nat) (mask : List Bool) (body : SS) (ds : List D) (h : ds.length = mask.length) : runF n mask body ds = (body (initR mask ds ++ List.replicate (n - mask.length) none)).bind fun r => match r.1 with
    | .rt rv => (outsOf r.2 (prOf 0 mask)).bind fun os => some (rv, os)
    | .nx => (outsOf r.2 (prOf 0 mask)).bind fun os => some (.v .none, os)
    | _ => none := if_pos h
@[simp] theorem x_addI (i j : Int) : addD (.int i) (.int j) = some (.v (.int (i + j))) := rfl
@[simp] theorem x_subI (i j : Int) : subD (.int i) (.int j) = some (.v (.int (i - j))) := rfl
@[simp] theorem x_ltI (i j : Int) : ltD (.int i) (.int j) = some (.v (.bool (decide (i < j)))) := rfl
@[simp] theorem x_leI (i j : Int) : leD (.int i) (.int j) = some (.v (.bool (decide (i ≤ j)))) := rfl
@[simp] theorem x_gtI (i j : Int) : gtD (.int i) (.int j) = some (.v (.bool (decide (j < i)))) := rfl
@[simp] theorem x_geI (i j : Int) : geD (.int i) (.int j) = some (.v (.bool (decide (j ≤ i)))) := rfl
@[simp] theorem x_negI (i : Int) : negD (.int i) = some (.v (.int (-i))) := rfl
theorem x_mulI (i j : Int) : mulD (.int i) (.int j) = if in64 i || in64 j then some (.v (.int (i * j))) else none := rfl
theorem x_divI (i j : Int) : fdivD (.int i) (.int j) = if decide (0 < j) && decide (j < 1073741824) then some (.v (.int (i / j))) else none := rfl
theorem x_modI (i j : Int) : modD (.int i) (.int j) = if decide (0 < j) then some (.v (.int (i % j))) else none := rfl
@[simp] theorem x_truB (b : Bool) : truD (.bool b) = some b := rfl
@[simp] theorem x_intI (i : Int) : intD [.int i] = some (.v (.int i)) := rfl
@[simp] theorem x_eqI (i j : Int) : eqD (.int i) (.int j) = some (.v (.bool (decide (i = j)))) := by
  unfold eqD
  rw [if_pos (show (okE (.int i) && okE (.int j)) = true from rfl)]
  rfl

@[simp] theorem x_mod {i j : Int} (h : 0 < j) : modD (.int i) (.int j) = some (.v (.int (i % j))) := by rw [x_modI, decide_eq_true h]; rfl
@[simp] theorem x_div {i j : Int} (h : 0 < j) (h2 : j < 1073741824) : fdivD (.int i) (.int j) = some (.v (.int (i / j))) := by rw [x_divI, decide_eq_true h, decide_eq_true h2]; rfl
theorem in64_of {i : Int} (h1 : -18446744073709551616 < i) (h2 : i < 18446744073709551616) : in64 i = true := by
  exact decide_eq_true (show i.natAbs < 18446744073709551616 by omega)
@[simp] theorem x_mulR {i j : Int} (h1 : -18446744073709551616 < j) (h2 : j < 18446744073709551616) : mulD (.int i) (.int j) = some (.v (.int (i * j))) := by rw [x_mulI, in64_of h1 h2, Bool.or_true]; rfl
@[simp] theorem x_mulL {i j : Int} (h1 : -18446744073709551616 < i) (h2 : i < 18446744073709551616) : mulD (.int i) (.int j) = some (.v (.int (i * j))) := by rw [x_mulI, in64_of h1 h2, Bool.true_or]; rfl
@[simp] theorem x_pow {i j : Int} (h0 : 0 ≤ j) (h : j ≤ 1000000) (h1 : -18446744073709551616 < i) (h2 : i < 18446744073709551616) : powD (.int i) (.int j) = some (.v (.int (i ^ j.toNat))) := by
  show (if decide (0 ≤ j) && decide (j ≤ 1000000) && in64 i then some (RV.v (.int (i ^ j.toNat))) else none) = _
  rw [decide_eq_true h0, decide_eq_true h, in64_of h1 h2]; rfl
@[simp] theorem x_divmod {i j : Int} (h : 0 < j) (h2 : j < 1073741824) : divmodD [.int i, .int j] = some (.v (.tuple [.int (i / j), .int (i % j)])) := by
  show (if decide (0 < j) && decide (j < 1073741824) then some (RV.v (.tuple [.int (i / j), .int (i % j)])) else none) = _
  rw [decide_eq_true h, decide_eq_true h2]; rfl
@[simp] theorem x_absI (i : Int) : absD [.int i] = some (.v (.int (if i < 0 then -i else i))) := rfl
@[simp] theorem x_maxI (i j : Int) : maxD [.int i, .int j] = some (.v (.int (if j > i then j else i))) := rfl
@[simp] theorem x_minI (i j : Int) : minD [.int i, .int j] = some (.v (.int (if j < i then j else i))) := rfl
@[simp] theorem x_lenL (ds : List D) : lenD [.list ds] = some (.v (.int ds.length)) := rfl
@[simp] theorem x_lenT (ds : List D) : lenD [.tuple ds] = some (.v (.int ds.length)) := rfl
@[simp] theorem x_ixL (xs : List D) (i : Int) : ixD (.list xs) (.int i) = (atI xs i).map .v := rfl
@[simp] theorem x_ixT (xs : List D) (i : Int) : ixD (.tuple xs) (.int i) = (atI xs i).map .v := rfl
theorem ixN_of {n : Nat} {j : Nat} : ixN n (j : Int) = if j < n then some j else none := by
  unfold ixN
  rw [if_pos (by omega)]
  by_cases h : j < n
  · rw [if_pos (by omega), if_pos h]; simp
  · rw [if_neg (by omega), if_neg h]
@[simp] theorem x_ixN0 (n : Nat) : ixN n 0 = if 0 < n then some 0 else none := ixN_of (j := 0)
@[simp] theorem x_ixN1 (n : Nat) : ixN n 1 = if 1 < n then some 1 else none := ixN_of (j := 1)
@[simp] theorem x_ixN2 (n : Nat) : ixN n 2 = if 2 < n then some 2 else none := ixN_of (j := 2)
@[simp] theorem x_ixN3 (n : Nat) : ixN n 3 = if 3 < n then some 3 else none := ixN_of (j := 3)
@[simp] theorem x_ixN4 (n : Nat) : ixN n 4 = if 4 < n then some 4 else none := ixN_of (j := 4)
@[simp] theorem x_ixN5 (n : Nat) : ixN n 5 = if 5 < n then some 5 else none := ixN_of (j := 5)
@[simp] theorem x_ixN6 (n : Nat) : ixN n 6 = if 6 < n then some 6 else none := ixN_of (j := 6)
@[simp] theorem x_ixN7 (n : Nat) : ixN n 7 = if 7 < n then some 7 else none := ixN_of (j := 7)
@[simp] theorem x_ixN8 (n : Nat) : ixN n 8 = if 8 < n then some 8 else none := ixN_of (j := 8)
@[simp] theorem x_ixN9 (n : Nat) : ixN n 9 = if 9 < n then some 9 else none := ixN_of (j := 9)
@[simp] theorem x_ixN10 (n : Nat) : ixN n 10 = if 10 < n then some 10 else none := ixN_of (j := 10)
@[simp] theorem x_ixN11 (n : Nat) : ixN n 11 = if 11 < n then some 11 else none := ixN_of (j := 11)
@[simp] theorem x_ixN12 (n : Nat) : ixN n 12 = if 12 < n then some 12 else none := ixN_of (j := 12)
@[simp] theorem x_ixNm (n : Nat) : ixN n (-1) = if 0 < n then some (n - 1) else none := by
  unfold ixN
  rw [if_neg (by decide)]
  by_cases h : 0 < n
  · rw [if_pos (by omega), if_pos h]; congr 1; omega
  · rw [if_neg (by omega), if_neg h]
theorem atI_of {xs : List D} {j : Nat} : atI xs (j : Int) = xs[j]? := by
  unfold atI
  rw [ixN_of]
  by_cases h : j < xs.length
  · rw [if_pos h]; rfl
  · rw [if_neg h, List.getElem?_eq_none (by omega)]; rfl
@[simp] theorem x_at0 (xs : List D) : atI xs 0 = xs[0]? := atI_of (j := 0)
@[simp] theorem x_at1 (xs : List D) : atI xs 1 = xs[1]? := atI_of (j := 1)
@[simp] theorem x_at2 (xs : List D) : atI xs 2 = xs[2]? := atI_of (j := 2)
@[simp] theorem x_at3 (xs : List D) : atI xs 3 = xs[3]? := atI_of (j := 3)
@[simp] theorem x_at4 (xs : List D) : atI xs 4 = xs[4]? := atI_of (j := 4)
@[simp] theorem x_at5 (xs : List D) : atI xs 5 = xs[5]? := atI_of (j := 5)
@[simp] theorem x_at6 (xs : List D) : atI xs 6 = xs[6]? := atI_of (j := 6)
@[simp] theorem x_at7 (xs : List D) : atI xs 7 = xs[7]? := atI_of (j := 7)
@[simp] theorem x_at8 (xs : List D) : atI xs 8 = xs[8]? := atI_of (j := 8)
@[simp] theorem x_at9 (xs : List D) : atI xs 9 = xs[9]? := atI_of (j := 9)
@[simp] theorem x_at10 (xs : List D) : atI xs 10 = xs[10]? := atI_of (j := 10)
@[simp] theorem x_at11 (xs : List D) : atI xs 11 = xs[11]? := atI_of (j := 11)
@[simp] theorem x_at12 (xs : List D) : atI xs 12 = xs[12]? := atI_of (j := 12)
@[simp] theorem x_atm (xs : List D) : atI xs (-1) = xs[xs.length - 1]? := by
  unfold atI
  rw [x_ixNm]
  by_cases h : 0 < xs.length
  · rw [if_pos h]; rfl
  · rw [if_neg h, List.getElem?_eq_none (by omega)]; rfl
@[simp] theorem x_isN1 (d : D) : isD d .none = some (.v (.bool (isN d))) := by cases d <;> rfl
@[simp] theorem x_isNN : isN .none = true := rfl
@[simp] theorem x_isB (a b : Bool) : isD (.bool a) (.bool b) = some (.v (.bool (decide (a = b)))) := rfl
theorem x_isNot (x y : D) : isNotD x y = match isD x y with
  | some (.v (.bool b)) => bl (!b)
  | _ => none := rfl
@[simp] theorem x_isNotN (d : D) : isNotD d .none = some (.v (.bool (!isN d))) := by rw [x_isNot, x_isN1]; rfl
@[simp] theorem x_isNotB (a b : Bool) : isNotD (.bool a) (.bool b) = some (.v (.bool (!decide (a = b)))) := rfl
@[simp] theorem x_eqB (i j : Bool) : eqD (.bool i) (.bool j) = some (.v (.bool (decide (i = j)))) := by cases i <;> cases j <;> rfl
theorem x_neq (x y : D) (h : (okE x && okE y) = true) : neD x y = match eqD x y with
  | some (.v (.bool b)) => bl (!b)
  | _ => none := by
  unfold neD eqD
  rw [if_pos h, if_pos h]; rfl
@[simp] theorem x_neI (i j : Int) : neD (.int i) (.int j) = some (.v (.bool (!decide (i = j)))) := by rw [x_neq _ _ rfl, x_eqI]; rfl
@[simp] theorem x_sFor (fi : MIt) (g : SG) (b : SS) : sFor fi g b ρ = (fi ρ).bind fun r => forL g b r.1 r.2 := rfl
@[simp] theorem x_iSeq (f : ME) : iSeq f ρ = (f ρ).bind fun r => match r.1.d with
  | .list ds => some (ds, r.2)
  | .tuple ds => some (ds, r.2)
  | .str s => some (signs s, r.2)
  | _ => none := rfl
@[simp] theorem x_iFn (fi : List D → Option (List D)) (fs : MOs) : iFn fi fs ρ = (fs ρ).bind fun r => (tvs r.1).bind fun xs => (fi xs).bind fun ds => some (ds, r.2) := rfl
theorem in62_of {i : Int} (h1 : -4611686018427387904 < i) (h2 : i < 4611686018427387904) : in62 i = true := by
  exact decide_eq_true (show i.natAbs < 4611686018427387904 by omega)
@[simp] theorem x_rng1 {j : Int} (h1 : -4611686018427387904 < j) (h2 : j < 4611686018427387904) : rng1 [.int j] = some (upTo 0 j.toNat) := by
  show (if in62 j then some (upTo 0 j.toNat) else none) = _
  rw [in62_of h1 h2]; rfl
@[simp] theorem x_rng2 {i j : Int} (h1 : -4611686018427387904 < j) (h2 : j < 4611686018427387904) (h3 : -4611686018427387904 < i) (h4 : i < 4611686018427387904) : rng2 [.int i, .int j] = some (upTo i (j - i).toNat) := by
  show (if in62 i && in62 j then some (upTo i (j - i).toNat) else none) = _
  rw [in62_of h1 h2, in62_of h3 h4]; rfl
@[simp] theorem x_eRg1 (l : Bool) (fa : ME) : eRg1 l fa ρ = (fa ρ).bind fun r => (asI r.1).bind fun n => (mkRg l 0 n).bind fun z => some (z, r.2) := rfl
@[simp] theorem x_eRg2 (l : Bool) (fa fb : ME) : eRg2 l fa fb ρ = (fa ρ).bind fun r => (asI r.1).bind fun m => (fb r.2).bind fun s => (asI s.1).bind fun n => (mkRg l m n).bind fun z => some (z, s.2) := rfl
theorem mkRg_ok {l : Bool} {a b : Int} (h1 : -16777216 ≤ a) (h2 : a ≤ 16777216) (h3 : b ≤ 16777216) (h4 : b - a ≤ 16777216) (h5 : -16777216 ≤ b) : mkRg l a b = some (if l then .o (.list (upTo a (b - a).toNat)) else .v (.tuple (upTo a (b - a).toNat))) := by
  unfold mkRg
  rw [in62_of (by omega) (by omega), in62_of (by omega) (by omega), show szb (b - a).toNat = true from decide_eq_true (by omega)]; rfl
@[simp] theorem x_eLc (vs : List Nat) (fi : MIt) (g : SG) (t : MB) (f : ME) : eLc vs fi g t f ρ = (fi ρ).bind fun r =>
  if vs.any (ownAt r.2) then none else (lcL vs g t f r.1 (wipeR r.2 vs) []).bind fun s => some (.o (.list s.1), backR r.2 s.2 vs) := rfl
@[simp] theorem x_eLc2 (vs vs1 : List Nat) (fi : MIt) (g : SG) (t : MB) (fi1 : MIt) (g1 : SG) (t1 : MB) (f : ME) : eLc2 vs vs1 fi g t fi1 g1 t1 f ρ = (fi ρ).bind fun r =>
  if vs.any (ownAt r.2) then none else (lcL2 vs vs1 g t fi1 g1 t1 f r.1 (wipeR r.2 vs) []).bind fun s => some (.o (.list s.1), backR r.2 s.2 vs) := rfl
@[simp] theorem x_bYes : bYes ρ = some (true, ρ) := rfl
@[simp] theorem x_wipe0 : wipeR ρ [] = ρ := rfl
@[simp] theorem x_wipe1 (v : Nat) (vs : List Nat) : wipeR ρ (v :: vs) = (wipeR ρ vs).set v none := rfl
@[simp] theorem x_back0 (ρ0 : Rho) : backR ρ0 ρ [] = ρ := rfl
@[simp] theorem x_back1 (ρ0 : Rho) (v : Nat) (vs : List Nat) : backR ρ0 ρ (v :: vs) = (backR ρ0 ρ vs).set v ((ρ0[v]?).getD none) := rfl
@[simp] theorem x_ownAt (i : Nat) : ownAt ρ i = match ρ[i]? with
  | some (some (.o _)) => true
  | _ => false := rfl
@[simp] theorem x_slL (xs : List D) (lo hi : Option Int) : slD (.list xs) lo hi = some (.o (.list (cut xs lo hi))) := rfl
@[simp] theorem x_slT (xs : List D) (lo hi : Option Int) : slD (.tuple xs) lo hi = some (.v (.tuple (cut xs lo hi))) := rfl
theorem szb_of {n : Nat} (h : n ≤ 16777216) : szb n = true := decide_eq_true h
theorem x_addL {xs ys : List D} (h : xs.length + ys.length ≤ 16777216) : addD (.list xs) (.list ys) = some (.o (.list (xs ++ ys))) := by
  show (if szb (xs.length + ys.length) then some (RV.o (.list (xs ++ ys))) else none) = _
  rw [szb_of h]; rfl
theorem x_addT {xs ys : List D} (h : xs.length + ys.length ≤ 16777216) : addD (.tuple xs) (.tuple ys) = some (.v (.tuple (xs ++ ys))) := by
  show (if szb (xs.length + ys.length) then some (RV.v (.tuple (xs ++ ys))) else none) = _
  rw [szb_of h]; rfl
theorem cut_take (xs : List D) (k : Nat) : cut xs none (some (k : Int)) = xs.take k := by
  unfold cut
  rw [HT.sIx_none, HT.sIx_nat, List.drop_zero, Nat.sub_zero]
  rw [List.take_eq_take_iff]; omega
theorem boolsOf_mp {α : Type} (p : α → Bool) : ∀ l : List α, boolsOf (l.map fun x => .bool (p x)) = some (l.map p)
  | [] => rfl
  | x :: l => by rw [List.map_cons, boolsOf, boolsOf_mp p l]; rfl
theorem x_all {ds : List D} {bs : List Bool} (h : boolsOf ds = some bs) : allD [.list ds] = some (.v (.bool (bs.all id))) := by
  show (boolsOf ds).map (fun bs => RV.v (.bool (bs.all id))) = _
  rw [h]; rfl
end

/-! ## loops -/
theorem forL_gen {g : SG} {b : SS} {I : List D → Rho → Prop} {Z : Out → Rho → Prop} (step : ∀ d ds ρ, I (d :: ds) ρ → ∃ ρ1, g d ρ = some ρ1 ∧ ∃ o ρ2, b ρ1 = some (o, ρ2) ∧ match o with
    | .nx => I ds ρ2
    | .ct => I ds ρ2
    | .bk => Z .nx ρ2
    | .rt v => Z (.rt v) ρ2) (fin : ∀ ρ, I [] ρ → Z .nx ρ) : ∀ ds ρ, I ds ρ → ∃ o ρ', forL g b ds ρ = some (o, ρ') ∧ Z o ρ'
  | [], ρ, h => ⟨.nx, ρ, rfl, fin ρ h⟩
  | d :: ds, ρ, h => by
    obtain ⟨ρ1, h1, o, ρ2, h2, h3⟩ := step d ds ρ h
    unfold forL
    rw [h1, Option.bind_some, h2, Option.bind_some]
    cases o with
    | nx => exact forL_gen step fin ds ρ2 h3
    | ct => exact forL_gen step fin ds ρ2 h3
    | bk => exact ⟨.nx, ρ2, rfl, h3⟩
    | rt v => exact ⟨.rt v, ρ2, rfl, h3⟩
theorem forL_st {g : SG} {b : SS} {I : List D → Rho → Prop} (step : ∀ d ds ρ, I (d :: ds) ρ → ∃ ρ1, g d ρ = some ρ1 ∧ ∃ ρ2, b ρ1 = some (.nx, ρ2) ∧ I ds ρ2) : ∀ ds ρ, I ds ρ → ∃ ρ', forL g b ds ρ = some (.nx, ρ') ∧ I [] ρ'
  | [], ρ, h => ⟨ρ, rfl, h⟩
  | d :: ds, ρ, h => by
    obtain ⟨ρ1, h1, ρ2, h2, h3⟩ := step d ds ρ h
    unfold forL
    rw [h1, Option.bind_some, h2, Option.bind_some]
    exact forL_st step ds ρ2 h3
theorem whileN_ok {t : MB} {b : SS} {I : Nat → Rho → Prop} {J : Rho → Prop} (step : ∀ m ρ, I m ρ → (∃ ρ1, t ρ = some (false, ρ1) ∧ J ρ1) ∨ ∃ ρ1 ρ2 m', t ρ = some (true, ρ1) ∧ b ρ1 = some (.nx, ρ2) ∧ m' < m ∧ I m' ρ2) :
    ∀ n m ρ, m < n → I m ρ → ∃ ρ', whileN t b n ρ = some (.nx, ρ') ∧ J ρ'
  | 0, m, ρ, h, _ => by omega
  | n + 1, m, ρ, h, i => by
    unfold whileN
    rcases step m ρ i with ⟨ρ1, h1, h2⟩ | ⟨ρ1, ρ2, m', h1, h2, h3, h4⟩
    · rw [h1, Option.bind_some]
      exact ⟨ρ1, rfl, h2⟩
    · rw [h1, Option.bind_some]
      simp only [if_true, h2, Option.bind_some]
      exact whileN_ok step n m' ρ2 (by omega) h4
theorem lcL_st {vs : List Nat} {g : SG} {t : MB} {f : ME} {I : List D → List D → Rho → Prop} (step : ∀ d ds acc ρ, I (d :: ds) acc ρ → ∃ ρ1 ρ2 k, g d ρ = some ρ1 ∧ t ρ1 = some (k, ρ2) ∧
      if k then ∃ rv ρ3, f ρ2 = some (rv, ρ3) ∧ acc.length < 16777216 ∧ I ds (acc ++ [rv.d]) (wipeR ρ3 vs) else I ds acc (wipeR ρ2 vs)) :
    ∀ ds acc ρ, I ds acc ρ → ∃ acc' ρ', lcL vs g t f ds ρ acc = some (acc', ρ') ∧ I [] acc' ρ'
  | [], acc, ρ, h => ⟨acc, ρ, rfl, h⟩
  | d :: ds, acc, ρ, h => by
    obtain ⟨ρ1, ρ2, k, h1, h2, h3⟩ := step d ds acc ρ h
    unfold lcL
    rw [h1, Option.bind_some, h2, Option.bind_some]
    cases k with
    | false => exact lcL_st step ds acc _ h3
    | true =>
      obtain ⟨rv, ρ3, h4, h5, h6⟩ := h3
      simp only [if_true, h4, Option.bind_some, decide_eq_true h5]
      exact lcL_st step ds _ _ h6
/-- a comprehension that leaves its names as they were -/
theorem lcL_map {vs : List Nat} {g : SG} {t : MB} {f : ME} {ρ0 : Rho} (h : D → D) {ds : List D} (hl : ds.length ≤ 16777216) (step : ∀ d ∈ ds, ∃ ρ1 ρ2 rv ρ3, g d ρ0 = some ρ1 ∧ t ρ1 = some (true, ρ2) ∧ f ρ2 = some (rv, ρ3) ∧ rv.d = h d ∧ wipeR ρ3 vs = ρ0) :
    lcL vs g t f ds ρ0 [] = some (ds.map h, ρ0) := by
  have gen : ∀ (es acc : List D), (∀ d ∈ es, d ∈ ds) → acc.length + es.length ≤ 16777216 → lcL vs g t f es ρ0 acc = some (acc ++ es.map h, ρ0) := by
    intro es
    induction es with
    | nil => intro acc _ _; unfold lcL; rw [List.map_nil, List.append_nil]
    | cons d es ih =>
      intro acc hm ha
      obtain ⟨ρ1, ρ2, rv, ρ3, h1, h2, h3, h4, h5⟩ := step d (hm d List.mem_cons_self)
      unfold lcL
      rw [List.length_cons] at ha
      rw [h1, Option.bind_some, h2, Option.bind_some]
      simp only [if_true, h3, Option.bind_some, decide_eq_true (show acc.length < 16777216 by omega), h4, h5]
      rw [ih _ (fun e he => hm e (List.mem_cons_of_mem _ he)) (by rw [List.length_append, List.length_singleton]; omega), List.append_assoc]
      rfl
  have := gen ds [] (fun _ h => h) (by simpa using hl)
  simpa using this
end Z
namespace Z
open PySem PySem.Spec L2
open PyProof.Rows hiding St

/-! ## constants of the module that hold tuples -/
theorem datsB_ok {K : PySem.W.Frag} {f : D → Value → Bool} (ih : ∀ d u, f d u = true → ∃ v, RelV v u ∧ ∀ H O, Rep K H O d v) : ∀ (ds : List D) (us : List Value), datsB f ds us = true → ∃ vs, Vals vs us ∧ ∀ H O, Reps K H O ds vs
  | [], [], _ => ⟨[], .nil, fun _ _ => .nil⟩
  | d :: ds, u :: us, h => by
    have h : (f d u && datsB f ds us) = true := h
    rw [Bool.and_eq_true] at h
    obtain ⟨v, h1, h2⟩ := ih d u h.1
    obtain ⟨vs, h3, h4⟩ := datsB_ok ih ds us h.2
    exact ⟨v :: vs, .cons h1 h3, fun H O => .cons (h2 H O) (h4 H O)⟩
  | [], _ :: _, h => by cases h
  | _ :: _, [], h => by cases h
theorem datB_ok {K : PySem.W.Frag} : ∀ (n : Nat) (d : D) (u : Value), datB K n d u = true → ∃ v, RelV v u ∧ ∀ H O, Rep K H O d v := by
  intro n
  induction n with
  | zero =>
    intro d u h
    unfold datB at h
    split at h
    · exact ⟨_, He.relB_ok h, fun _ _ => .non⟩
    · exact ⟨_, He.relB_ok h, fun _ _ => .bl _⟩
    · exact ⟨_, He.relB_ok h, fun _ _ => .int _⟩
    · rw [Bool.and_eq_true] at h
      exact ⟨_, He.relB_ok h.2, fun _ _ => .str _ h.1⟩
    · rename_i e; cases e
    · cases h
  | succ n ih =>
    intro d u h
    unfold datB at h
    split at h
    · exact ⟨_, He.relB_ok h, fun _ _ => .non⟩
    · exact ⟨_, He.relB_ok h, fun _ _ => .bl _⟩
    · exact ⟨_, He.relB_ok h, fun _ _ => .int _⟩
    · rw [Bool.and_eq_true] at h
      exact ⟨_, He.relB_ok h.2, fun _ _ => .str _ h.1⟩
    · rename_i e
      cases e
      split at h
      · rename_i c od its m osl q
        simp only [Bool.and_eq_true, decide_eq_true_eq] at h
        obtain ⟨h1, h2, h3⟩ := h
        obtain ⟨vs, h4, h5⟩ := datsB_ok ih _ _ h3
        exact ⟨.ref _, rfl, fun H O => .tup (.inr (.inr ⟨_, its, m, q, congrArg Value.type h1, rfl, h2, h4⟩)) (h5 H O)⟩
      · cases h
    · cases h
theorem datG_ok {K : PySem.W.Frag} {h : Heap} {mg : Str → Option Value} {x : Str} {d : D} (X : K.In h) (G : h.Ns mainGlobals mg) (c : datG K (x, d) = true) : ∃ v u, mg x = some u ∧ RelV v u ∧ ∀ H O, Rep K H O d v := by
  unfold datG at c
  split at c
  · rename_i u e
    obtain ⟨v, h1, h2⟩ := datB_ok 6 d u c
    exact ⟨v, u, PySem.W.mg_of X G e, h1, h2⟩
  · cases c
theorem TabOk.putC {k : Nat} {T : Tab} {P : Program} {w : World} {K : PySem.W.Frag} {mg : Str → Option Value} {base h : Heap} (t : TabOk k T P w K mg base) {x : Str} {d : D} (X : K.In h) (G : h.Ns mainGlobals mg) (c : datG K (x, d) = true) : TabOk k (T.put x d) P w K mg base := by
  obtain ⟨v, u, h1, h2, h3⟩ := datG_ok X G c
  exact t.put h1 h2 h3
end Z
namespace Z
open PySem PySem.Spec L2
open PyProof.Rows hiding St

/-! ## more lemmas for simp: types, texts, cuts -/
@[simp] theorem x_is1 (b : Bool) (i : Int) (s : Str) (l : List D) (m : List (D × D)) : isiD ["int"] .none = false := rfl
@[simp] theorem x_is2 (b : Bool) (i : Int) (s : Str) (l : List D) (m : List (D × D)) : isiD ["int"] (.bool b) = true := rfl
@[simp] theorem x_is3 (b : Bool) (i : Int) (s : Str) (l : List D) (m : List (D × D)) : isiD ["int"] (.int i) = true := rfl
@[simp] theorem x_is4 (b : Bool) (i : Int) (s : Str) (l : List D) (m : List (D × D)) : isiD ["int"] (.str s) = false := rfl
@[simp] theorem x_is5 (b : Bool) (i : Int) (s : Str) (l : List D) (m : List (D × D)) : isiD ["int"] (.list l) = false := rfl
@[simp] theorem x_is6 (b : Bool) (i : Int) (s : Str) (l : List D) (m : List (D × D)) : isiD ["int"] (.tuple l) = false := rfl
@[simp] theorem x_is7 (b : Bool) (i : Int) (s : Str) (l : List D) (m : List (D × D)) : isiD ["int"] (.dict m) = false := rfl
@[simp] theorem x_is8 (b : Bool) (i : Int) (s : Str) (l : List D) (m : List (D × D)) : isiD ["bool"] .none = false := rfl
@[simp] theorem x_is9 (b : Bool) (i : Int) (s : Str) (l : List D) (m : List (D × D)) : isiD ["bool"] (.bool b) = true := rfl
@[simp] theorem x_is10 (b : Bool) (i : Int) (s : Str) (l : List D) (m : List (D × D)) : isiD ["bool"] (.int i) = false := rfl
@[simp] theorem x_is11 (b : Bool) (i : Int) (s : Str) (l : List D) (m : List (D × D)) : isiD ["bool"] (.str s) = false := rfl
@[simp] theorem x_is12 (b : Bool) (i : Int) (s : Str) (l : List D) (m : List (D × D)) : isiD ["bool"] (.list l) = false := rfl
@[simp] theorem x_is13 (b : Bool) (i : Int) (s : Str) (l : List D) (m : List (D × D)) : isiD ["bool"] (.tuple l) = false := rfl
@[simp] theorem x_is14 (b : Bool) (i : Int) (s : Str) (l : List D) (m : List (D × D)) : isiD ["bool"] (.dict m) = false := rfl
@[simp] theorem x_is15 (b : Bool) (i : Int) (s : Str) (l : List D) (m : List (D × D)) : isiD ["str"] .none = false := rfl
@[simp] theorem x_is16 (b : Bool) (i : Int) (s : Str) (l : List D) (m : List (D × D)) : isiD ["str"] (.bool b) = false := rfl
@[simp] theorem x_is17 (b : Bool) (i : Int) (s : Str) (l : List D) (m : List (D × D)) : isiD ["str"] (.int i) = false := rfl
@[simp] theorem x_is18 (b : Bool) (i : Int) (s : Str) (l : List D) (m : List (D × D)) : isiD ["str"] (.str s) = true := rfl
@[simp] theorem x_is19 (b : Bool) (i : Int) (s : Str) (l : List D) (m : List (D × D)) : isiD ["str"] (.list l) = false := rfl
@[simp] theorem x_is20 (b : Bool) (i : Int) (s : Str) (l : List D) (m : List (D × D)) : isiD ["str"] (.tuple l) = false := rfl
@[simp] theorem x_is21 (b : Bool) (i : Int) (s : Str) (l : List D) (m : List (D × D)) : isiD ["str"] (.dict m) = false := rfl
@[simp] theorem x_is22 (b : Bool) (i : Int) (s : Str) (l : List D) (m : List (D × D)) : isiD ["list"] .none = false := rfl
@[simp] theorem x_is23 (b : Bool) (i : Int) (s : Str) (l : List D) (m : List (D × D)) : isiD ["list"] (.bool b) = false := rfl
@[simp] theorem x_is24 (b : Bool) (i : Int) (s : Str) (l : List D) (m : List (D × D)) : isiD ["list"] (.int i) = false := rfl
@[simp] theorem x_is25 (b : Bool) (i : Int) (s : Str) (l : List D) (m : List (D × D)) : isiD ["list"] (.str s) = false := rfl
@[simp] theorem x_is26 (b : Bool) (i : Int) (s : Str) (l : List D) (m : List (D × D)) : isiD ["list"] (.list l) = true := rfl
@[simp] theorem x_is27 (b : Bool) (i : Int) (s : Str) (l : List D) (m : List (D × D)) : isiD ["list"] (.tuple l) = false := rfl
@[simp] theorem x_is28 (b : Bool) (i : Int) (s : Str) (l : List D) (m : List (D × D)) : isiD ["list"] (.dict m) = false := rfl
@[simp] theorem x_is29 (b : Bool) (i : Int) (s : Str) (l : List D) (m : List (D × D)) : isiD ["tuple"] .none = false := rfl
@[simp] theorem x_is30 (b : Bool) (i : Int) (s : Str) (l : List D) (m : List (D × D)) : isiD ["tuple"] (.bool b) = false := rfl
@[simp] theorem x_is31 (b : Bool) (i : Int) (s : Str) (l : List D) (m : List (D × D)) : isiD ["tuple"] (.int i) = false := rfl
@[simp] theorem x_is32 (b : Bool) (i : Int) (s : Str) (l : List D) (m : List (D × D)) : isiD ["tuple"] (.str s) = false := rfl
@[simp] theorem x_is33 (b : Bool) (i : Int) (s : Str) (l : List D) (m : List (D × D)) : isiD ["tuple"] (.list l) = false := rfl
@[simp] theorem x_is34 (b : Bool) (i : Int) (s : Str) (l : List D) (m : List (D × D)) : isiD ["tuple"] (.tuple l) = true := rfl
@[simp] theorem x_is35 (b : Bool) (i : Int) (s : Str) (l : List D) (m : List (D × D)) : isiD ["tuple"] (.dict m) = false := rfl
@[simp] theorem x_is36 (b : Bool) (i : Int) (s : Str) (l : List D) (m : List (D × D)) : isiD ["dict"] .none = false := rfl
@[simp] theorem x_is37 (b : Bool) (i : Int) (s : Str) (l : List D) (m : List (D × D)) : isiD ["dict"] (.bool b) = false := rfl
@[simp] theorem x_is38 (b : Bool) (i : Int) (s : Str) (l : List D) (m : List (D × D)) : isiD ["dict"] (.int i) = false := rfl
@[simp] theorem x_is39 (b : Bool) (i : Int) (s : Str) (l : List D) (m : List (D × D)) : isiD ["dict"] (.str s) = false := rfl
@[simp] theorem x_is40 (b : Bool) (i : Int) (s : Str) (l : List D) (m : List (D × D)) : isiD ["dict"] (.list l) = false := rfl
@[simp] theorem x_is41 (b : Bool) (i : Int) (s : Str) (l : List D) (m : List (D × D)) : isiD ["dict"] (.tuple l) = false := rfl
@[simp] theorem x_is42 (b : Bool) (i : Int) (s : Str) (l : List D) (m : List (D × D)) : isiD ["dict"] (.dict m) = true := rfl
@[simp] theorem x_is43 (b : Bool) (i : Int) (s : Str) (l : List D) (m : List (D × D)) : isiD ["tuple", "list"] .none = false := rfl
@[simp] theorem x_is44 (b : Bool) (i : Int) (s : Str) (l : List D) (m : List (D × D)) : isiD ["tuple", "list"] (.bool b) = false := rfl
@[simp] theorem x_is45 (b : Bool) (i : Int) (s : Str) (l : List D) (m : List (D × D)) : isiD ["tuple", "list"] (.int i) = false := rfl
@[simp] theorem x_is46 (b : Bool) (i : Int) (s : Str) (l : List D) (m : List (D × D)) : isiD ["tuple", "list"] (.str s) = false := rfl
@[simp] theorem x_is47 (b : Bool) (i : Int) (s : Str) (l : List D) (m : List (D × D)) : isiD ["tuple", "list"] (.list l) = true := rfl
@[simp] theorem x_is48 (b : Bool) (i : Int) (s : Str) (l : List D) (m : List (D × D)) : isiD ["tuple", "list"] (.tuple l) = true := rfl
@[simp] theorem x_is49 (b : Bool) (i : Int) (s : Str) (l : List D) (m : List (D × D)) : isiD ["tuple", "list"] (.dict m) = false := rfl
@[simp] theorem x_is50 (b : Bool) (i : Int) (s : Str) (l : List D) (m : List (D × D)) : isiD ["list", "tuple"] .none = false := rfl
@[simp] theorem x_is51 (b : Bool) (i : Int) (s : Str) (l : List D) (m : List (D × D)) : isiD ["list", "tuple"] (.bool b) = false := rfl
@[simp] theorem x_is52 (b : Bool) (i : Int) (s : Str) (l : List D) (m : List (D × D)) : isiD ["list", "tuple"] (.int i) = false := rfl
@[simp] theorem x_is53 (b : Bool) (i : Int) (s : Str) (l : List D) (m : List (D × D)) : isiD ["list", "tuple"] (.str s) = false := rfl
@[simp] theorem x_is54 (b : Bool) (i : Int) (s : Str) (l : List D) (m : List (D × D)) : isiD ["list", "tuple"] (.list l) = true := rfl
@[simp] theorem x_is55 (b : Bool) (i : Int) (s : Str) (l : List D) (m : List (D × D)) : isiD ["list", "tuple"] (.tuple l) = true := rfl
@[simp] theorem x_is56 (b : Bool) (i : Int) (s : Str) (l : List D) (m : List (D × D)) : isiD ["list", "tuple"] (.dict m) = false := rfl
@[simp] theorem x_is57 (b : Bool) (i : Int) (s : Str) (l : List D) (m : List (D × D)) : isiD ["int", "str"] .none = false := rfl
@[simp] theorem x_is58 (b : Bool) (i : Int) (s : Str) (l : List D) (m : List (D × D)) : isiD ["int", "str"] (.bool b) = true := rfl
@[simp] theorem x_is59 (b : Bool) (i : Int) (s : Str) (l : List D) (m : List (D × D)) : isiD ["int", "str"] (.int i) = true := rfl
@[simp] theorem x_is60 (b : Bool) (i : Int) (s : Str) (l : List D) (m : List (D × D)) : isiD ["int", "str"] (.str s) = true := rfl
@[simp] theorem x_is61 (b : Bool) (i : Int) (s : Str) (l : List D) (m : List (D × D)) : isiD ["int", "str"] (.list l) = false := rfl
@[simp] theorem x_is62 (b : Bool) (i : Int) (s : Str) (l : List D) (m : List (D × D)) : isiD ["int", "str"] (.tuple l) = false := rfl
@[simp] theorem x_is63 (b : Bool) (i : Int) (s : Str) (l : List D) (m : List (D × D)) : isiD ["int", "str"] (.dict m) = false := rfl
@[simp] theorem x_is64 (b : Bool) (i : Int) (s : Str) (l : List D) (m : List (D × D)) : isiD ["str", "int"] .none = false := rfl
@[simp] theorem x_is65 (b : Bool) (i : Int) (s : Str) (l : List D) (m : List (D × D)) : isiD ["str", "int"] (.bool b) = true := rfl
@[simp] theorem x_is66 (b : Bool) (i : Int) (s : Str) (l : List D) (m : List (D × D)) : isiD ["str", "int"] (.int i) = true := rfl
@[simp] theorem x_is67 (b : Bool) (i : Int) (s : Str) (l : List D) (m : List (D × D)) : isiD ["str", "int"] (.str s) = true := rfl
@[simp] theorem x_is68 (b : Bool) (i : Int) (s : Str) (l : List D) (m : List (D × D)) : isiD ["str", "int"] (.list l) = false := rfl
@[simp] theorem x_is69 (b : Bool) (i : Int) (s : Str) (l : List D) (m : List (D × D)) : isiD ["str", "int"] (.tuple l) = false := rfl
@[simp] theorem x_is70 (b : Bool) (i : Int) (s : Str) (l : List D) (m : List (D × D)) : isiD ["str", "int"] (.dict m) = false := rfl
@[simp] theorem x_is71 (b : Bool) (i : Int) (s : Str) (l : List D) (m : List (D × D)) : isiD ["list", "dict"] .none = false := rfl
@[simp] theorem x_is72 (b : Bool) (i : Int) (s : Str) (l : List D) (m : List (D × D)) : isiD ["list", "dict"] (.bool b) = false := rfl
@[simp] theorem x_is73 (b : Bool) (i : Int) (s : Str) (l : List D) (m : List (D × D)) : isiD ["list", "dict"] (.int i) = false := rfl
@[simp] theorem x_is74 (b : Bool) (i : Int) (s : Str) (l : List D) (m : List (D × D)) : isiD ["list", "dict"] (.str s) = false := rfl
@[simp] theorem x_is75 (b : Bool) (i : Int) (s : Str) (l : List D) (m : List (D × D)) : isiD ["list", "dict"] (.list l) = true := rfl
@[simp] theorem x_is76 (b : Bool) (i : Int) (s : Str) (l : List D) (m : List (D × D)) : isiD ["list", "dict"] (.tuple l) = false := rfl
@[simp] theorem x_is77 (b : Bool) (i : Int) (s : Str) (l : List D) (m : List (D × D)) : isiD ["list", "dict"] (.dict m) = true := rfl
@[simp] theorem x_is78 (b : Bool) (i : Int) (s : Str) (l : List D) (m : List (D × D)) : isiD ["tuple", "list", "dict"] .none = false := rfl
@[simp] theorem x_is79 (b : Bool) (i : Int) (s : Str) (l : List D) (m : List (D × D)) : isiD ["tuple", "list", "dict"] (.bool b) = false := rfl
@[simp] theorem x_is80 (b : Bool) (i : Int) (s : Str) (l : List D) (m : List (D × D)) : isiD ["tuple", "list", "dict"] (.int i) = false := rfl
@[simp] theorem x_is81 (b : Bool) (i : Int) (s : Str) (l : List D) (m : List (D × D)) : isiD ["tuple", "list", "dict"] (.str s) = false := rfl
@[simp] theorem x_is82 (b : Bool) (i : Int) (s : Str) (l : List D) (m : List (D × D)) : isiD ["tuple", "list", "dict"] (.list l) = true := rfl
@[simp] theorem x_is83 (b : Bool) (i : Int) (s : Str) (l : List D) (m : List (D × D)) : isiD ["tuple", "list", "dict"] (.tuple l) = true := rfl
@[simp] theorem x_is84 (b : Bool) (i : Int) (s : Str) (l : List D) (m : List (D × D)) : isiD ["tuple", "list", "dict"] (.dict m) = true := rfl
@[simp] theorem x_is85 (b : Bool) (i : Int) (s : Str) (l : List D) (m : List (D × D)) : isiD ["bool", "int"] .none = false := rfl
@[simp] theorem x_is86 (b : Bool) (i : Int) (s : Str) (l : List D) (m : List (D × D)) : isiD ["bool", "int"] (.bool b) = true := rfl
@[simp] theorem x_is87 (b : Bool) (i : Int) (s : Str) (l : List D) (m : List (D × D)) : isiD ["bool", "int"] (.int i) = true := rfl
@[simp] theorem x_is88 (b : Bool) (i : Int) (s : Str) (l : List D) (m : List (D × D)) : isiD ["bool", "int"] (.str s) = false := rfl
@[simp] theorem x_is89 (b : Bool) (i : Int) (s : Str) (l : List D) (m : List (D × D)) : isiD ["bool", "int"] (.list l) = false := rfl
@[simp] theorem x_is90 (b : Bool) (i : Int) (s : Str) (l : List D) (m : List (D × D)) : isiD ["bool", "int"] (.tuple l) = false := rfl
@[simp] theorem x_is91 (b : Bool) (i : Int) (s : Str) (l : List D) (m : List (D × D)) : isiD ["bool", "int"] (.dict m) = false := rfl
@[simp] theorem x_is92 (b : Bool) (i : Int) (s : Str) (l : List D) (m : List (D × D)) : isiD ["bool", "str"] .none = false := rfl
@[simp] theorem x_is93 (b : Bool) (i : Int) (s : Str) (l : List D) (m : List (D × D)) : isiD ["bool", "str"] (.bool b) = true := rfl
@[simp] theorem x_is94 (b : Bool) (i : Int) (s : Str) (l : List D) (m : List (D × D)) : isiD ["bool", "str"] (.int i) = false := rfl
@[simp] theorem x_is95 (b : Bool) (i : Int) (s : Str) (l : List D) (m : List (D × D)) : isiD ["bool", "str"] (.str s) = true := rfl
@[simp] theorem x_is96 (b : Bool) (i : Int) (s : Str) (l : List D) (m : List (D × D)) : isiD ["bool", "str"] (.list l) = false := rfl
@[simp] theorem x_is97 (b : Bool) (i : Int) (s : Str) (l : List D) (m : List (D × D)) : isiD ["bool", "str"] (.tuple l) = false := rfl
@[simp] theorem x_is98 (b : Bool) (i : Int) (s : Str) (l : List D) (m : List (D × D)) : isiD ["bool", "str"] (.dict m) = false := rfl
@[simp] theorem x_is99 (b : Bool) (i : Int) (s : Str) (l : List D) (m : List (D × D)) : isiD ["int", "bool"] .none = false := rfl
@[simp] theorem x_is100 (b : Bool) (i : Int) (s : Str) (l : List D) (m : List (D × D)) : isiD ["int", "bool"] (.bool b) = true := rfl
@[simp] theorem x_is101 (b : Bool) (i : Int) (s : Str) (l : List D) (m : List (D × D)) : isiD ["int", "bool"] (.int i) = true := rfl
@[simp] theorem x_is102 (b : Bool) (i : Int) (s : Str) (l : List D) (m : List (D × D)) : isiD ["int", "bool"] (.str s) = false := rfl
@[simp] theorem x_is103 (b : Bool) (i : Int) (s : Str) (l : List D) (m : List (D × D)) : isiD ["int", "bool"] (.list l) = false := rfl
@[simp] theorem x_is104 (b : Bool) (i : Int) (s : Str) (l : List D) (m : List (D × D)) : isiD ["int", "bool"] (.tuple l) = false := rfl
@[simp] theorem x_is105 (b : Bool) (i : Int) (s : Str) (l : List D) (m : List (D × D)) : isiD ["int", "bool"] (.dict m) = false := rfl
@[simp] theorem x_is106 (b : Bool) (i : Int) (s : Str) (l : List D) (m : List (D × D)) : isiD ["list", "tuple", "dict"] .none = false := rfl
@[simp] theorem x_is107 (b : Bool) (i : Int) (s : Str) (l : List D) (m : List (D × D)) : isiD ["list", "tuple", "dict"] (.bool b) = false := rfl
@[simp] theorem x_is108 (b : Bool) (i : Int) (s : Str) (l : List D) (m : List (D × D)) : isiD ["list", "tuple", "dict"] (.int i) = false := rfl
@[simp] theorem x_is109 (b : Bool) (i : Int) (s : Str) (l : List D) (m : List (D × D)) : isiD ["list", "tuple", "dict"] (.str s) = false := rfl
@[simp] theorem x_is110 (b : Bool) (i : Int) (s : Str) (l : List D) (m : List (D × D)) : isiD ["list", "tuple", "dict"] (.list l) = true := rfl
@[simp] theorem x_is111 (b : Bool) (i : Int) (s : Str) (l : List D) (m : List (D × D)) : isiD ["list", "tuple", "dict"] (.tuple l) = true := rfl
@[simp] theorem x_is112 (b : Bool) (i : Int) (s : Str) (l : List D) (m : List (D × D)) : isiD ["list", "tuple", "dict"] (.dict m) = true := rfl
@[simp] theorem x_is113 (b : Bool) (i : Int) (s : Str) (l : List D) (m : List (D × D)) : isiD ["str", "tuple"] .none = false := rfl
@[simp] theorem x_is114 (b : Bool) (i : Int) (s : Str) (l : List D) (m : List (D × D)) : isiD ["str", "tuple"] (.bool b) = false := rfl
@[simp] theorem x_is115 (b : Bool) (i : Int) (s : Str) (l : List D) (m : List (D × D)) : isiD ["str", "tuple"] (.int i) = false := rfl
@[simp] theorem x_is116 (b : Bool) (i : Int) (s : Str) (l : List D) (m : List (D × D)) : isiD ["str", "tuple"] (.str s) = true := rfl
@[simp] theorem x_is117 (b : Bool) (i : Int) (s : Str) (l : List D) (m : List (D × D)) : isiD ["str", "tuple"] (.list l) = false := rfl
@[simp] theorem x_is118 (b : Bool) (i : Int) (s : Str) (l : List D) (m : List (D × D)) : isiD ["str", "tuple"] (.tuple l) = true := rfl
@[simp] theorem x_is119 (b : Bool) (i : Int) (s : Str) (l : List D) (m : List (D × D)) : isiD ["str", "tuple"] (.dict m) = false := rfl
@[simp] theorem x_is120 (b : Bool) (i : Int) (s : Str) (l : List D) (m : List (D × D)) : isiD ["tuple", "str"] .none = false := rfl
@[simp] theorem x_is121 (b : Bool) (i : Int) (s : Str) (l : List D) (m : List (D × D)) : isiD ["tuple", "str"] (.bool b) = false := rfl
@[simp] theorem x_is122 (b : Bool) (i : Int) (s : Str) (l : List D) (m : List (D × D)) : isiD ["tuple", "str"] (.int i) = false := rfl
@[simp] theorem x_is123 (b : Bool) (i : Int) (s : Str) (l : List D) (m : List (D × D)) : isiD ["tuple", "str"] (.str s) = true := rfl
@[simp] theorem x_is124 (b : Bool) (i : Int) (s : Str) (l : List D) (m : List (D × D)) : isiD ["tuple", "str"] (.list l) = false := rfl
@[simp] theorem x_is125 (b : Bool) (i : Int) (s : Str) (l : List D) (m : List (D × D)) : isiD ["tuple", "str"] (.tuple l) = true := rfl
@[simp] theorem x_is126 (b : Bool) (i : Int) (s : Str) (l : List D) (m : List (D × D)) : isiD ["tuple", "str"] (.dict m) = false := rfl
@[simp] theorem x_eqS (a b : Str) : eqD (.str a) (.str b) = some (.v (.bool (decide (a = b)))) := by
  unfold eqD
  rw [if_pos (show (okE (.str a) && okE (.str b)) = true from rfl)]
  first | rfl | (unfold bl PyData.eqv; rfl) | (unfold bl PyData.eqv; congr 3; exact Bool.eq_iff_iff.mpr (by simp))
@[simp] theorem x_neS (a b : Str) : neD (.str a) (.str b) = some (.v (.bool (!decide (a = b)))) := by rw [x_neq _ _ rfl, x_eqS]; rfl
@[simp] theorem x_eqNI (i : Int) : eqD .none (.int i) = some (.v (.bool false)) := rfl
@[simp] theorem x_eqIN (i : Int) : eqD (.int i) .none = some (.v (.bool false)) := rfl
theorem x_inT (x : D) (ys : List D) (h : okE x = true) (h2 : noDicts ys = true) : inD x (.tuple ys) = some (.v (.bool (ys.any fun y => PyData.eqv y x))) := by
  unfold inD
  cases x <;> simp_all [bl]
@[simp] theorem x_notIn (x y : D) : notInD x y = match inD x y with
  | some (.v (.bool b)) => bl (!b)
  | _ => none := rfl
@[simp] theorem x_bl (b : Bool) : bl b = some (.v (.bool b)) := rfl
theorem x_maxM (i j : Int) : maxD [.int i, .int j] = some (.v (.int (max i j))) := by
  rw [x_maxI]
  congr 3
  split <;> omega
theorem x_minM (i j : Int) : minD [.int i, .int j] = some (.v (.int (min i j))) := by
  rw [x_minI]
  congr 3
  split <;> omega
theorem cut_drop (xs : List D) (k : Nat) : cut xs (some (k : Int)) none = xs.drop k := by
  unfold cut
  rw [HT.sIx_none, HT.sIx_nat]
  by_cases h : k ≤ xs.length
  · rw [Nat.min_eq_left h, List.take_of_length_le (by rw [List.length_drop]; omega)]
  · rw [Nat.min_eq_right (by omega), List.drop_length, List.take_nil, List.drop_of_length_le (by omega)]
theorem cut_both (xs : List D) (a b : Nat) : cut xs (some (a : Int)) (some (b : Int)) = (xs.take b).drop a := by
  unfold cut
  rw [HT.sIx_nat, HT.sIx_nat, List.drop_take]
  by_cases h : a ≤ xs.length
  · rw [Nat.min_eq_left h, List.take_eq_take_iff, List.length_drop]
    omega
  · rw [show min a xs.length = xs.length by omega, List.drop_length, List.drop_of_length_le (show xs.length ≤ a by omega), List.take_nil, List.take_nil]
theorem cut_last (xs : List D) : cut xs none (some (-1)) = xs.dropLast := by
  unfold cut
  rw [HT.sIx_none, List.drop_zero, Nat.sub_zero, List.dropLast_eq_take]
  congr 1
  unfold HT.sIx
  simp
  omega
@[simp] theorem x_cutT0 (xs : List D) : cut xs none (some 0) = xs.take 0 := cut_take xs 0
@[simp] theorem x_cutD0 (xs : List D) : cut xs (some 0) none = xs.drop 0 := cut_drop xs 0
@[simp] theorem x_cutT1 (xs : List D) : cut xs none (some 1) = xs.take 1 := cut_take xs 1
@[simp] theorem x_cutD1 (xs : List D) : cut xs (some 1) none = xs.drop 1 := cut_drop xs 1
@[simp] theorem x_cutT2 (xs : List D) : cut xs none (some 2) = xs.take 2 := cut_take xs 2
@[simp] theorem x_cutD2 (xs : List D) : cut xs (some 2) none = xs.drop 2 := cut_drop xs 2
@[simp] theorem x_cutT3 (xs : List D) : cut xs none (some 3) = xs.take 3 := cut_take xs 3
@[simp] theorem x_cutD3 (xs : List D) : cut xs (some 3) none = xs.drop 3 := cut_drop xs 3
@[simp] theorem x_cutT4 (xs : List D) : cut xs none (some 4) = xs.take 4 := cut_take xs 4
@[simp] theorem x_cutD4 (xs : List D) : cut xs (some 4) none = xs.drop 4 := cut_drop xs 4
@[simp] theorem x_cutT5 (xs : List D) : cut xs none (some 5) = xs.take 5 := cut_take xs 5
@[simp] theorem x_cutD5 (xs : List D) : cut xs (some 5) none = xs.drop 5 := cut_drop xs 5
@[simp] theorem x_cutT6 (xs : List D) : cut xs none (some 6) = xs.take 6 := cut_take xs 6
@[simp] theorem x_cutD6 (xs : List D) : cut xs (some 6) none = xs.drop 6 := cut_drop xs 6
@[simp] theorem x_cutT7 (xs : List D) : cut xs none (some 7) = xs.take 7 := cut_take xs 7
@[simp] theorem x_cutD7 (xs : List D) : cut xs (some 7) none = xs.drop 7 := cut_drop xs 7
@[simp] theorem x_cutT8 (xs : List D) : cut xs none (some 8) = xs.take 8 := cut_take xs 8
@[simp] theorem x_cutD8 (xs : List D) : cut xs (some 8) none = xs.drop 8 := cut_drop xs 8
@[simp] theorem x_cutT9 (xs : List D) : cut xs none (some 9) = xs.take 9 := cut_take xs 9
@[simp] theorem x_cutD9 (xs : List D) : cut xs (some 9) none = xs.drop 9 := cut_drop xs 9
@[simp] theorem x_cutT10 (xs : List D) : cut xs none (some 10) = xs.take 10 := cut_take xs 10
@[simp] theorem x_cutD10 (xs : List D) : cut xs (some 10) none = xs.drop 10 := cut_drop xs 10
@[simp] theorem x_cutT11 (xs : List D) : cut xs none (some 11) = xs.take 11 := cut_take xs 11
@[simp] theorem x_cutD11 (xs : List D) : cut xs (some 11) none = xs.drop 11 := cut_drop xs 11
@[simp] theorem x_cutT12 (xs : List D) : cut xs none (some 12) = xs.take 12 := cut_take xs 12
@[simp] theorem x_cutD12 (xs : List D) : cut xs (some 12) none = xs.drop 12 := cut_drop xs 12
@[simp] theorem x_cutM (xs : List D) : cut xs none (some (-1)) = xs.dropLast := cut_last xs
@[simp] theorem x_addTs {xs ys : List D} (h : xs.length + ys.length ≤ 16777216) : addD (.tuple xs) (.tuple ys) = some (.v (.tuple (xs ++ ys))) := x_addT h
@[simp] theorem x_addLs {xs ys : List D} (h : xs.length + ys.length ≤ 16777216) : addD (.list xs) (.list ys) = some (.o (.list (xs ++ ys))) := x_addL h
@[simp] theorem x_szb {n : Nat} (h : n ≤ 16777216) : szb n = true := szb_of h
@[simp] theorem x_eqE (ds : List D) : eqD (.tuple ds) (.tuple []) = some (.v (.bool ds.isEmpty)) := by
  unfold eqD
  split
  · cases ds with
    | nil => rfl
    | cons d ds => show bl (PyData.eqv (.tuple (d :: ds)) (.tuple [])) = _; unfold PyData.eqv PyData.eqvAll; rfl
  · rfl
@[simp] theorem x_strI {i : Int} (h : i.natAbs.log2 < 1920) : strD [.int i] = some (.v (.str (toString i))) := if_pos (decide_eq_true h)
@[simp] theorem x_eqvS (a b : Str) : PyData.eqv (.str a) (.str b) = decide (a = b) := by
  rw [show PyData.eqv (.str a) (.str b) = (a == b) by unfold PyData.eqv; rfl]
  exact Bool.eq_iff_iff.mpr (by simp)
@[simp] theorem x_eApp (i : Nat) (f : ME) (ρ : Rho) : eApp i f ρ = match slot ρ i with
  | some (.list _) => (f ρ).bind fun r => match r.2[i]? with
    | some (some (.o (.list ds))) => if decide (ds.length < 16777216) then some (.v .none, r.2.set i (some (.o (.list (ds ++ [r.1.d]))))) else none
    | _ => none
  | _ => none := rfl
@[simp] theorem x_ePopAt (i : Nat) (f : ME) (ρ : Rho) : ePopAt i f ρ = match slot ρ i with
  | some (.list _) => (f ρ).bind fun r => (asI r.1).bind fun j => match r.2[i]? with
    | some (some (.o (.list ds))) => if in62 j then (seqIndex? j ds.length).bind fun k => ds[k]?.bind fun d => some (.v d, r.2.set i (some (.o (.list (ds.eraseIdx k))))) else none
    | _ => none
  | _ => none := rfl
theorem x_nodup2 {i j : Nat} (h : i ≠ j) : nodupN [i, j] = true := by
  simp [nodupN, h]
@[simp] theorem x_tupL (ds : List D) : tupleD [.list ds] = some (.v (.tuple ds)) := rfl
@[simp] theorem x_tupT (ds : List D) : tupleD [.tuple ds] = some (.v (.tuple ds)) := rfl
@[simp] theorem x_lstL (ds : List D) : listD [.list ds] = some (.o (.list ds)) := rfl
@[simp] theorem x_lstT (ds : List D) : listD [.tuple ds] = some (.o (.list ds)) := rfl
@[simp] theorem x_addS {a b : Str} (h : a.length + b.length ≤ 16777216) : addD (.str a) (.str b) = some (.v (.str (a ++ b))) := by
  show (if szb (a.length + b.length) then some (RV.v (.str (a ++ b))) else none) = _
  rw [szb_of h]; rfl
end Z
namespace K18
open PySem PySem.Spec L2 Z
open PyProof.Rows hiding St
def T0 : Tab := (((((((((((((((((((((((((Tab.nil.put "MOST_HOUSE" (.int 3)).put "DEEDS" C_DEEDS).put "DONE" (.str "done")).put "REFUSED" (.str "refused")).put "FREE" (.str "free")).put "WAIT" (.str "wait")).put "HOLD" (.str "hold")).put "GRACE" (.str "grace")).put "HELD" (.str "held")).put "AGREE" (.str "agree")).put "CODE" (.str "code")).put "DELETE" (.str "delete")).put "LOCK" (.str "lock")).put "REFUSE" (.str "refuse")).put "RENEW" (.str "renew")).put "UNLOCK" (.str "unlock")).put "REDEEM" (.str "redeem")).put "CREATE" (.str "create")).put "TAKE" (.str "take")).put "MOST_DAYS_lifework" (.int 4)).put "MOST_TERM" (.int 9)).put "WORDS" C_WORDS).put "MOST_SENT" (.int 5)).put "MOST_DAYS_viewchecks" (.int 12)).put "MOST_LATE" (.int 3))
theorem sc_l_well : FnScope ["script", "lap", "own", "stir", "each"] ["script", "lap"] (defScope s_l_well) := ⟨rfl, rfl, rfl, by decide +kernel, rfl, by decide +kernel, by decide +kernel⟩
def kw_l_well : Nat → List Str → Option (List Nat) := noKw
def q_l_well_1 : SS :=
    (sSeq (sSet [] 3 (eOp2 modD (oTv (eB intD (osCons (oTv (eOp2 addD (oTv (eOp2 addD (oTv (eOp2 mulD (oSl 3) (oTv (eC (.int 44497))))) (oTv (eOp2 modD (oTv (eB intD (osCons (oSl 4) osNil))) (oTv (eC (.int 2147483587))))))) (oTv (eC (.int 29))))) osNil))) (oTv (eC (.int 2147483563)))))
    sNil)
def b_l_well : SS :=
    (sSeq (sSet [] 2 (eIf (bOp2 ltD (oSl 1) (oTv (eB lenD (osCons (oSl 0) osNil)))) (eB intD (osCons (oTv (eOp2 ixD (oSl 0) (oSl 1))) osNil)) (eC (.int 0))))
    (sSeq (sSet [] 3 (eOp2 addD (oTv (eC (.int 52027))) (oTv (eOp2 mulD (oTv (eC (.int 6971))) (oSl 1)))))
    (sSeq (sFor (iSeq (eOp2 addD (oTv (eSl (oSl 0) iNo (iSome (eC (.int 8))))) (oTv (eLst (osCons (oTv (eVar 2)) osNil))))) (gN [] 4) q_l_well_1)
    (sSeq (sRet (eLst (osCons (oTv (eIf (bOr (bOp2 ltD (oSl 2) (oTv (eC (.int 0)))) (bOp2 geD (oSl 2) (oTv (eOp2 powD (oTv (eC (.int 10))) (oTv (eC (.int 18))))))) (eB absD (osCons (oSl 2) osNil)) (eC (.int 0)))) (osCons (oTv (eVar 3)) (osCons (oTv (eC (.int 0))) osNil)))))
    sNil))))
def F_l_well : FnS := ⟨[false, false], runF 5 [false, false] b_l_well⟩
theorem c_l_well : cSs (cS ["script", "lap", "own", "stir", "each"] (co T0 ["script", "lap", "own", "stir", "each"] 16) [] (defScope s_l_well) 1000000 16) (defBody s_l_well) = some b_l_well := by kernel_rfl
@[simp] theorem m_l_well : F_l_well.mask = [false, false] := rfl
theorem u_l_well : F_l_well.run = runF 5 [false, false] b_l_well := rfl
def T1 : Tab := T0.add "_law_well" F_l_well kw_l_well
theorem sc_is_tuple_up_to : FnScope ["value", "low", "high"] ["value", "low", "high"] (defScope s_is_tuple_up_to) := ⟨rfl, rfl, rfl, by decide +kernel, rfl, by decide +kernel, by decide +kernel⟩
def kw_is_tuple_up_to : Nat → List Str → Option (List Nat) := noKw
def b_is_tuple_up_to : SS :=
    (sSeq (sRet (eAnd (eIsi ["tuple"] (oSl 0)) (eChain leD leD (oSl 1) (oTv (eB lenD (osCons (oSl 0) osNil))) (oSl 2))))
    sNil)
def F_is_tuple_up_to : FnS := ⟨[false, false, false], runF 3 [false, false, false] b_is_tuple_up_to⟩
theorem c_is_tuple_up_to : cSs (cS ["value", "low", "high"] (co T1 ["value", "low", "high"] 16) [] (defScope s_is_tuple_up_to) 1000000 16) (defBody s_is_tuple_up_to) = some b_is_tuple_up_to := by kernel_rfl
@[simp] theorem m_is_tuple_up_to : F_is_tuple_up_to.mask = [false, false, false] := rfl
theorem u_is_tuple_up_to : F_is_tuple_up_to.run = runF 3 [false, false, false] b_is_tuple_up_to := rfl
def T2 : Tab := T1.add "is_tuple_up_to" F_is_tuple_up_to kw_is_tuple_up_to
theorem sc_is_tuple_of : FnScope ["value", "many"] ["value", "many"] (defScope s_is_tuple_of) := ⟨rfl, rfl, rfl, by decide +kernel, rfl, by decide +kernel, by decide +kernel⟩
def kw_is_tuple_of : Nat → List Str → Option (List Nat) := noKw
def b_is_tuple_of : SS :=
    (sSeq (sRet (eCall F_is_tuple_up_to (aTv (eVar 0) (aTv (eVar 1) (aTv (eVar 1) aNil)))))
    sNil)
def F_is_tuple_of : FnS := ⟨[false, false], runF 2 [false, false] b_is_tuple_of⟩
theorem c_is_tuple_of : cSs (cS ["value", "many"] (co T2 ["value", "many"] 16) [] (defScope s_is_tuple_of) 1000000 16) (defBody s_is_tuple_of) = some b_is_tuple_of := by kernel_rfl
@[simp] theorem m_is_tuple_of : F_is_tuple_of.mask = [false, false] := rfl
theorem u_is_tuple_of : F_is_tuple_of.run = runF 2 [false, false] b_is_tuple_of := rfl
def T3 : Tab := T2.add "is_tuple_of" F_is_tuple_of kw_is_tuple_of
theorem sc_is_named : FnScope ["value", "names"] ["value", "names"] (defScope s_is_named) := ⟨rfl, rfl, rfl, by decide +kernel, rfl, by decide +kernel, by decide +kernel⟩
def kw_is_named : Nat → List Str → Option (List Nat) := noKw
def b_is_named : SS :=
    (sSeq (sRet (eAnd (eIsi ["str"] (oSl 0)) (eOp2 inD (oSl 0) (oSl 1))))
    sNil)
def F_is_named : FnS := ⟨[false, false], runF 2 [false, false] b_is_named⟩
theorem c_is_named : cSs (cS ["value", "names"] (co T3 ["value", "names"] 16) [] (defScope s_is_named) 1000000 16) (defBody s_is_named) = some b_is_named := by kernel_rfl
@[simp] theorem m_is_named : F_is_named.mask = [false, false] := rfl
theorem u_is_named : F_is_named.run = runF 2 [false, false] b_is_named := rfl
def T4 : Tab := T3.add "is_named" F_is_named kw_is_named
theorem sc_is_number : FnScope ["value"] ["value"] (defScope s_is_number) := ⟨rfl, rfl, rfl, by decide +kernel, rfl, by decide +kernel, by decide +kernel⟩
def kw_is_number : Nat → List Str → Option (List Nat) := noKw
def b_is_number : SS :=
    (sSeq (sRet (eAnd (eIsi ["int"] (oSl 0)) (eAnd (eNot (eIsi ["bool"] (oSl 0))) (eOp2 geD (oSl 0) (oTv (eC (.int 0)))))))
    sNil)
def F_is_number : FnS := ⟨[false], runF 1 [false] b_is_number⟩
theorem c_is_number : cSs (cS ["value"] (co T4 ["value"] 16) [] (defScope s_is_number) 1000000 16) (defBody s_is_number) = some b_is_number := by kernel_rfl
@[simp] theorem m_is_number : F_is_number.mask = [false] := rfl
theorem u_is_number : F_is_number.run = runF 1 [false] b_is_number := rfl
def T5 : Tab := T4.add "is_number" F_is_number kw_is_number
theorem sc_is_up_to : FnScope ["value", "most"] ["value", "most"] (defScope s_is_up_to) := ⟨rfl, rfl, rfl, by decide +kernel, rfl, by decide +kernel, by decide +kernel⟩
def kw_is_up_to : Nat → List Str → Option (List Nat) := noKw
def b_is_up_to : SS :=
    (sSeq (sRet (eAnd (eCall F_is_number (aTv (eVar 0) aNil)) (eOp2 leD (oSl 0) (oSl 1))))
    sNil)
def F_is_up_to : FnS := ⟨[false, false], runF 2 [false, false] b_is_up_to⟩
theorem c_is_up_to : cSs (cS ["value", "most"] (co T5 ["value", "most"] 16) [] (defScope s_is_up_to) 1000000 16) (defBody s_is_up_to) = some b_is_up_to := by kernel_rfl
@[simp] theorem m_is_up_to : F_is_up_to.mask = [false, false] := rfl
theorem u_is_up_to : F_is_up_to.run = runF 2 [false, false] b_is_up_to := rfl
def T6 : Tab := T5.add "is_up_to" F_is_up_to kw_is_up_to
theorem sc_is_house : FnScope ["value"] ["value"] (defScope s_is_house) := ⟨rfl, rfl, rfl, by decide +kernel, rfl, by decide +kernel, by decide +kernel⟩
def kw_is_house : Nat → List Str → Option (List Nat) := noKw
def b_is_house : SS :=
    (sSeq (sRet (eCall F_is_up_to (aTv (eVar 0) (aTv (eC (.int 3)) aNil))))
    sNil)
def F_is_house : FnS := ⟨[false], runF 1 [false] b_is_house⟩
theorem c_is_house : cSs (cS ["value"] (co T6 ["value"] 16) [] (defScope s_is_house) 1000000 16) (defBody s_is_house) = some b_is_house := by kernel_rfl
@[simp] theorem m_is_house : F_is_house.mask = [false] := rfl
theorem u_is_house : F_is_house.run = runF 1 [false] b_is_house := rfl
def T7 : Tab := T6.add "is_house" F_is_house kw_is_house
theorem sc_is_came : FnScope ["value"] ["value"] (defScope s_is_came) := ⟨rfl, rfl, rfl, by decide +kernel, rfl, by decide +kernel, by decide +kernel⟩
def kw_is_came : Nat → List Str → Option (List Nat) := noKw
def b_is_came : SS :=
    (sSeq (sIf (bOr (bNot (bTru (oTv (eCall F_is_tuple_of (aTv (eVar 0) (aTv (eC (.int 3)) aNil)))))) (bOr (bNot (bTru (oTv (eCall F_is_house (aTv (eOp2 ixD (oSl 0) (oTv (eC (.int 0)))) aNil))))) (bNot (bTru (oTv (eCall F_is_named (aTv (eOp2 ixD (oSl 0) (oTv (eC (.int 1)))) (aTv (eC C_DEEDS) aNil))))))))
    (sSeq (sRet (eC (.bool false)))
    sNil)
    sNil)
    (sSeq (sRet (eCall F_is_named (aTv (eOp2 ixD (oSl 0) (oTv (eC (.int 2)))) (aTv (eTup (osCons (oTv (eC (.str "done"))) (osCons (oTv (eC (.str "refused"))) osNil))) aNil))))
    sNil))
def F_is_came : FnS := ⟨[false], runF 1 [false] b_is_came⟩
theorem c_is_came : cSs (cS ["value"] (co T7 ["value"] 16) [] (defScope s_is_came) 1000000 16) (defBody s_is_came) = some b_is_came := by kernel_rfl
@[simp] theorem m_is_came : F_is_came.mask = [false] := rfl
theorem u_is_came : F_is_came.run = runF 1 [false] b_is_came := rfl
def T8 : Tab := T7.add "is_came" F_is_came kw_is_came
theorem sc_waiting : FnScope ["rules"] ["rules"] (defScope s_waiting) := ⟨rfl, rfl, rfl, by decide +kernel, rfl, by decide +kernel, by decide +kernel⟩
def kw_waiting : Nat → List Str → Option (List Nat) := noKw
def b_waiting : SS :=
    (sSeq (sRet (eIf (bOp2 gtD (oTv (eOp2 ixD (oSl 0) (oTv (eC (.int 4))))) (oTv (eC (.int 0)))) (eTup (osCons (oTv (eC (.str "wait"))) (osCons (oTv (eOp2 ixD (oSl 0) (oTv (eC (.int 4))))) osNil))) (eTup (osCons (oTv (eC (.str "free"))) osNil))))
    sNil)
def F_waiting : FnS := ⟨[false], runF 1 [false] b_waiting⟩
theorem c_waiting : cSs (cS ["rules"] (co T8 ["rules"] 16) [] (defScope s_waiting) 1000000 16) (defBody s_waiting) = some b_waiting := by kernel_rfl
@[simp] theorem m_waiting : F_waiting.mask = [false] := rfl
theorem u_waiting : F_waiting.run = runF 1 [false] b_waiting := rfl
def T9 : Tab := T8.add "waiting" F_waiting kw_waiting
theorem sc_fallen : FnScope ["rules", "house"] ["rules", "house"] (defScope s_fallen) := ⟨rfl, rfl, rfl, by decide +kernel, rfl, by decide +kernel, by decide +kernel⟩
def kw_fallen : Nat → List Str → Option (List Nat) := noKw
def b_fallen : SS :=
    (sSeq (sRet (eIf (bOp2 gtD (oTv (eOp2 ixD (oSl 0) (oTv (eC (.int 3))))) (oTv (eC (.int 0)))) (eTup (osCons (oTv (eC (.str "hold"))) (osCons (oTv (eVar 1)) (osCons (oTv (eOp2 ixD (oSl 0) (oTv (eC (.int 3))))) osNil)))) (eCall F_waiting (aTv (eVar 0) aNil))))
    sNil)
def F_fallen : FnS := ⟨[false, false], runF 2 [false, false] b_fallen⟩
theorem c_fallen : cSs (cS ["rules", "house"] (co T9 ["rules", "house"] 16) [] (defScope s_fallen) 1000000 16) (defBody s_fallen) = some b_fallen := by kernel_rfl
@[simp] theorem m_fallen : F_fallen.mask = [false, false] := rfl
theorem u_fallen : F_fallen.run = runF 2 [false, false] b_fallen := rfl
def T10 : Tab := T9.add "fallen" F_fallen kw_fallen
theorem sc_greatest_age : FnScope ["rules"] ["rules"] (defScope s_greatest_age) := ⟨rfl, rfl, rfl, by decide +kernel, rfl, by decide +kernel, by decide +kernel⟩
def kw_greatest_age : Nat → List Str → Option (List Nat) := noKw
def b_greatest_age : SS :=
    (sSeq (sRet (eB maxD (osCons (oTv (eOp2 ixD (oSl 0) (oTv (eC (.int 5))))) (osCons (oTv (eOp2 ixD (oSl 0) (oTv (eC (.int 1))))) osNil))))
    sNil)
def F_greatest_age : FnS := ⟨[false], runF 1 [false] b_greatest_age⟩
theorem c_greatest_age : cSs (cS ["rules"] (co T10 ["rules"] 16) [] (defScope s_greatest_age) 1000000 16) (defBody s_greatest_age) = some b_greatest_age := by kernel_rfl
@[simp] theorem m_greatest_age : F_greatest_age.mask = [false] := rfl
theorem u_greatest_age : F_greatest_age.run = runF 1 [false] b_greatest_age := rfl
def T11 : Tab := T10.add "greatest_age" F_greatest_age kw_greatest_age
theorem sc_lapsed : FnScope ["rules", "house"] ["rules", "house"] (defScope s_lapsed) := ⟨rfl, rfl, rfl, by decide +kernel, rfl, by decide +kernel, by decide +kernel⟩
def kw_lapsed : Nat → List Str → Option (List Nat) := noKw
def b_lapsed : SS :=
    (sSeq (sRet (eIf (bOp2 gtD (oTv (eOp2 ixD (oSl 0) (oTv (eC (.int 2))))) (oTv (eC (.int 0)))) (eTup (osCons (oTv (eC (.str "grace"))) (osCons (oTv (eVar 1)) (osCons (oTv (eOp2 ixD (oSl 0) (oTv (eC (.int 2))))) osNil)))) (eCall F_fallen (aTv (eVar 0) (aTv (eVar 1) aNil)))))
    sNil)
def F_lapsed : FnS := ⟨[false, false], runF 2 [false, false] b_lapsed⟩
theorem c_lapsed : cSs (cS ["rules", "house"] (co T11 ["rules", "house"] 16) [] (defScope s_lapsed) 1000000 16) (defBody s_lapsed) = some b_lapsed := by kernel_rfl
@[simp] theorem m_lapsed : F_lapsed.mask = [false, false] := rfl
theorem u_lapsed : F_lapsed.run = runF 2 [false, false] b_lapsed := rfl
def T12 : Tab := T11.add "lapsed" F_lapsed kw_lapsed
theorem sc_moved : FnScope ["life", "house"] ["life", "house"] (defScope s_moved) := ⟨rfl, rfl, rfl, by decide +kernel, rfl, by decide +kernel, by decide +kernel⟩
def kw_moved : Nat → List Str → Option (List Nat) := noKw
def b_moved : SS :=
    (sSeq (sRet (eTup (osCons (oTv (eC (.str "held"))) (osCons (oTv (eVar 1)) (osCons (oTv (eOp2 ixD (oSl 0) (oTv (eC (.int 2))))) (osCons (oTv (eC (.int 0))) (osCons (oTv (eC (.bool false))) (osCons (oTv (eC (.bool false))) (osCons (oTv (eC .none)) osNil)))))))))
    sNil)
def F_moved : FnS := ⟨[false, false], runF 2 [false, false] b_moved⟩
theorem c_moved : cSs (cS ["life", "house"] (co T12 ["life", "house"] 16) [] (defScope s_moved) 1000000 16) (defBody s_moved) = some b_moved := by kernel_rfl
@[simp] theorem m_moved : F_moved.mask = [false, false] := rfl
theorem u_moved : F_moved.run = runF 2 [false, false] b_moved := rfl
def T13 : Tab := T12.add "moved" F_moved kw_moved
theorem sc_moves_at_turn : FnScope ["rules", "life"] ["rules", "life"] (defScope s_moves_at_turn) := ⟨rfl, rfl, rfl, by decide +kernel, rfl, by decide +kernel, by decide +kernel⟩
def kw_moves_at_turn : Nat → List Str → Option (List Nat) := noKw
def b_moves_at_turn : SS :=
    (sSeq (sRet (eAnd (eOp2 eqD (oTv (eOp2 ixD (oSl 1) (oTv (eC (.int 0))))) (oTv (eC (.str "held")))) (eAnd (eOp2 isNotD (oTv (eOp2 ixD (oSl 1) (oTv (eC (.int 6))))) (oTv (eC .none))) (eAnd (eOp2 eqD (oTv (eOp2 ixD (oTv (eOp2 ixD (oSl 1) (oTv (eC (.int 6))))) (oTv (eC (.int 1))))) (oTv (eC (.int 1)))) (eOp2 ixD (oSl 0) (oTv (eC (.int 7))))))))
    sNil)
def F_moves_at_turn : FnS := ⟨[false, false], runF 2 [false, false] b_moves_at_turn⟩
theorem c_moves_at_turn : cSs (cS ["rules", "life"] (co T13 ["rules", "life"] 16) [] (defScope s_moves_at_turn) 1000000 16) (defBody s_moves_at_turn) = some b_moves_at_turn := by kernel_rfl
@[simp] theorem m_moves_at_turn : F_moves_at_turn.mask = [false, false] := rfl
theorem u_moves_at_turn : F_moves_at_turn.run = runF 2 [false, false] b_moves_at_turn := rfl
def T14 : Tab := T13.add "moves_at_turn" F_moves_at_turn kw_moves_at_turn
theorem sc_turned_ask : FnScope ["rules", "life"] ["rules", "life"] (defScope s_turned_ask) := ⟨rfl, rfl, rfl, by decide +kernel, rfl, by decide +kernel, by decide +kernel⟩
def kw_turned_ask : Nat → List Str → Option (List Nat) := noKw
def b_turned_ask : SS :=
    (sSeq (sIf (bTru (oTv (eCall F_moves_at_turn (aTv (eVar 0) (aTv (eVar 1) aNil)))))
    (sSeq (sRet (eCall F_moved (aTv (eVar 1) (aTv (eOp2 ixD (oTv (eOp2 ixD (oSl 1) (oTv (eC (.int 6))))) (oTv (eC (.int 0)))) aNil))))
    sNil)
    sNil)
    (sSeq (sIf (bOr (bOp2 isD (oTv (eOp2 ixD (oSl 1) (oTv (eC (.int 6))))) (oTv (eC .none))) (bOp2 eqD (oTv (eOp2 ixD (oTv (eOp2 ixD (oSl 1) (oTv (eC (.int 6))))) (oTv (eC (.int 1))))) (oTv (eC (.int 1)))))
    (sSeq (sRet (eOp2 addD (oTv (eSl (oSl 1) iNo (iSome (eC (.int 6))))) (oTv (eTup (osCons (oTv (eC .none)) osNil)))))
    sNil)
    sNil)
    (sSeq (sRet (eOp2 addD (oTv (eSl (oSl 1) iNo (iSome (eC (.int 6))))) (oTv (eTup (osCons (oTv (eTup (osCons (oTv (eOp2 ixD (oTv (eOp2 ixD (oSl 1) (oTv (eC (.int 6))))) (oTv (eC (.int 0))))) (osCons (oTv (eOp2 subD (oTv (eOp2 ixD (oTv (eOp2 ixD (oSl 1) (oTv (eC (.int 6))))) (oTv (eC (.int 1))))) (oTv (eC (.int 1))))) osNil)))) osNil)))))
    sNil)))
def F_turned_ask : FnS := ⟨[false, false], runF 2 [false, false] b_turned_ask⟩
theorem c_turned_ask : cSs (cS ["rules", "life"] (co T14 ["rules", "life"] 16) [] (defScope s_turned_ask) 1000000 16) (defBody s_turned_ask) = some b_turned_ask := by kernel_rfl
@[simp] theorem m_turned_ask : F_turned_ask.mask = [false, false] := rfl
theorem u_turned_ask : F_turned_ask.run = runF 2 [false, false] b_turned_ask := rfl
def T15 : Tab := T14.add "turned_ask" F_turned_ask kw_turned_ask
theorem sc_turned_held : FnScope ["rules", "life", "older", "found"] ["rules", "life"] (defScope s_turned_held) := ⟨rfl, rfl, rfl, by decide +kernel, rfl, by decide +kernel, by decide +kernel⟩
def kw_turned_held : Nat → List Str → Option (List Nat) := noKw
def b_turned_held : SS :=
    (sSeq (sSet [] 2 (eOp2 addD (oTv (eOp2 addD (oTv (eSl (oSl 1) iNo (iSome (eC (.int 3))))) (oTv (eTup (osCons (oTv (eB minD (osCons (oTv (eOp2 addD (oTv (eOp2 ixD (oSl 1) (oTv (eC (.int 3))))) (oTv (eC (.int 1))))) (osCons (oTv (eCall F_greatest_age (aTv (eVar 0) aNil))) osNil)))) osNil))))) (oTv (eSl (oSl 1) (iSome (eC (.int 4))) iNo))))
    (sSeq (sSet [] 3 (eCall F_turned_ask (aTv (eVar 0) (aTv (eVar 2) aNil))))
    (sSeq (sIf (bOp2 eqD (oTv (eOp2 ixD (oSl 3) (oTv (eC (.int 2))))) (oTv (eC (.int 1))))
    (sSeq (sRet (eCall F_lapsed (aTv (eVar 0) (aTv (eOp2 ixD (oSl 3) (oTv (eC (.int 1)))) aNil))))
    sNil)
    sNil)
    (sSeq (sRet (eOp2 addD (oTv (eOp2 addD (oTv (eSl (oSl 3) iNo (iSome (eC (.int 2))))) (oTv (eTup (osCons (oTv (eOp2 subD (oTv (eOp2 ixD (oSl 3) (oTv (eC (.int 2))))) (oTv (eC (.int 1))))) osNil))))) (oTv (eSl (oSl 3) (iSome (eC (.int 3))) iNo))))
    sNil))))
def F_turned_held : FnS := ⟨[false, false], runF 4 [false, false] b_turned_held⟩
theorem c_turned_held : cSs (cS ["rules", "life", "older", "found"] (co T15 ["rules", "life", "older", "found"] 16) [] (defScope s_turned_held) 1000000 16) (defBody s_turned_held) = some b_turned_held := by kernel_rfl
@[simp] theorem m_turned_held : F_turned_held.mask = [false, false] := rfl
theorem u_turned_held : F_turned_held.run = runF 4 [false, false] b_turned_held := rfl
def T16 : Tab := T15.add "turned_held" F_turned_held kw_turned_held
theorem sc_turned_by : FnScope ["rules", "life"] ["rules", "life"] (defScope s_turned_by) := ⟨rfl, rfl, rfl, by decide +kernel, rfl, by decide +kernel, by decide +kernel⟩
def kw_turned_by : Nat → List Str → Option (List Nat) := noKw
def b_turned_by : SS :=
    (sSeq (sIf (bOp2 eqD (oTv (eOp2 ixD (oSl 1) (oTv (eC (.int 0))))) (oTv (eC (.str "free"))))
    (sSeq (sRetV [] 1)
    sNil)
    sNil)
    (sSeq (sIf (bOp2 eqD (oTv (eOp2 ixD (oSl 1) (oTv (eC (.int 0))))) (oTv (eC (.str "held"))))
    (sSeq (sRet (eCall F_turned_held (aTv (eVar 0) (aTv (eVar 1) aNil))))
    sNil)
    sNil)
    (sSeq (sIf (bOp2 gtD (oTv (eOp2 ixD (oSl 1) (oTv (eOp1 negD (oTv (eC (.int 1))))))) (oTv (eC (.int 1))))
    (sSeq (sRet (eOp2 addD (oTv (eSl (oSl 1) iNo (iSome (eOp1 negD (oTv (eC (.int 1))))))) (oTv (eTup (osCons (oTv (eOp2 subD (oTv (eOp2 ixD (oSl 1) (oTv (eOp1 negD (oTv (eC (.int 1))))))) (oTv (eC (.int 1))))) osNil)))))
    sNil)
    sNil)
    (sSeq (sIf (bOp2 eqD (oTv (eOp2 ixD (oSl 1) (oTv (eC (.int 0))))) (oTv (eC (.str "grace"))))
    (sSeq (sRet (eCall F_fallen (aTv (eVar 0) (aTv (eOp2 ixD (oSl 1) (oTv (eC (.int 1)))) aNil))))
    sNil)
    sNil)
    (sSeq (sRet (eIf (bOp2 eqD (oTv (eOp2 ixD (oSl 1) (oTv (eC (.int 0))))) (oTv (eC (.str "hold")))) (eCall F_waiting (aTv (eVar 0) aNil)) (eTup (osCons (oTv (eC (.str "free"))) osNil))))
    sNil)))))
def F_turned_by : FnS := ⟨[false, false], runF 2 [false, false] b_turned_by⟩
theorem c_turned_by : cSs (cS ["rules", "life"] (co T16 ["rules", "life"] 16) [] (defScope s_turned_by) 1000000 16) (defBody s_turned_by) = some b_turned_by := by kernel_rfl
@[simp] theorem m_turned_by : F_turned_by.mask = [false, false] := rfl
theorem u_turned_by : F_turned_by.run = runF 2 [false, false] b_turned_by := rfl
def T17 : Tab := T16.add "turned_by" F_turned_by kw_turned_by
theorem sc_holder_of : FnScope ["life"] ["life"] (defScope s_holder_of) := ⟨rfl, rfl, rfl, by decide +kernel, rfl, by decide +kernel, by decide +kernel⟩
def kw_holder_of : Nat → List Str → Option (List Nat) := noKw
def b_holder_of : SS :=
    (sSeq (sRet (eIf (bOp2 inD (oTv (eOp2 ixD (oSl 0) (oTv (eC (.int 0))))) (oTv (eTup (osCons (oTv (eC (.str "held"))) (osCons (oTv (eC (.str "grace"))) (osCons (oTv (eC (.str "hold"))) osNil)))))) (eOp2 ixD (oSl 0) (oTv (eC (.int 1)))) (eC .none)))
    sNil)
def F_holder_of : FnS := ⟨[false], runF 1 [false] b_holder_of⟩
theorem c_holder_of : cSs (cS ["life"] (co T17 ["life"] 16) [] (defScope s_holder_of) 1000000 16) (defBody s_holder_of) = some b_holder_of := by kernel_rfl
@[simp] theorem m_holder_of : F_holder_of.mask = [false] := rfl
theorem u_holder_of : F_holder_of.run = runF 1 [false] b_holder_of := rfl
def T18 : Tab := T17.add "holder_of" F_holder_of kw_holder_of
theorem sc_created : FnScope ["rules", "house"] ["rules", "house"] (defScope s_created) := ⟨rfl, rfl, rfl, by decide +kernel, rfl, by decide +kernel, by decide +kernel⟩
def kw_created : Nat → List Str → Option (List Nat) := noKw
def b_created : SS :=
    (sSeq (sRet (eTup (osCons (oTv (eC (.str "held"))) (osCons (oTv (eVar 1)) (osCons (oTv (eOp2 ixD (oSl 0) (oTv (eC (.int 0))))) (osCons (oTv (eC (.int 0))) (osCons (oTv (eC (.bool false))) (osCons (oTv (eC (.bool false))) (osCons (oTv (eC .none)) osNil)))))))))
    sNil)
def F_created : FnS := ⟨[false, false], runF 2 [false, false] b_created⟩
theorem c_created : cSs (cS ["rules", "house"] (co T18 ["rules", "house"] 16) [] (defScope s_created) 1000000 16) (defBody s_created) = some b_created := by kernel_rfl
@[simp] theorem m_created : F_created.mask = [false, false] := rfl
theorem u_created : F_created.run = runF 2 [false, false] b_created := rfl
def T19 : Tab := T18.add "created" F_created kw_created
theorem sc_taken : FnScope ["rules", "life", "house"] ["rules", "life", "house"] (defScope s_taken) := ⟨rfl, rfl, rfl, by decide +kernel, rfl, by decide +kernel, by decide +kernel⟩
def kw_taken : Nat → List Str → Option (List Nat) := noKw
def b_taken : SS :=
    (sSeq (sIf (bOr (bOp2 neD (oTv (eOp2 ixD (oSl 1) (oTv (eC (.int 0))))) (oTv (eC (.str "held")))) (bOr (bOp2 eqD (oTv (eOp2 ixD (oSl 1) (oTv (eC (.int 1))))) (oSl 2)) (bOr (bTru (oTv (eOp2 ixD (oSl 1) (oTv (eC (.int 4)))))) (bNot (bTru (oTv (eOp2 ixD (oSl 1) (oTv (eC (.int 5))))))))))
    (sSeq (sRet (eC .none))
    sNil)
    sNil)
    (sSeq (sIf (bOr (bOp2 isNotD (oTv (eOp2 ixD (oSl 1) (oTv (eC (.int 6))))) (oTv (eC .none))) (bOp2 ltD (oTv (eOp2 ixD (oSl 1) (oTv (eC (.int 3))))) (oTv (eOp2 ixD (oSl 0) (oTv (eC (.int 5)))))))
    (sSeq (sRet (eC .none))
    sNil)
    sNil)
    (sSeq (sRet (eOp2 addD (oTv (eSl (oSl 1) iNo (iSome (eC (.int 6))))) (oTv (eTup (osCons (oTv (eTup (osCons (oTv (eVar 2)) (osCons (oTv (eOp2 ixD (oSl 0) (oTv (eC (.int 6))))) osNil)))) osNil)))))
    sNil)))
def F_taken : FnS := ⟨[false, false, false], runF 3 [false, false, false] b_taken⟩
theorem c_taken : cSs (cS ["rules", "life", "house"] (co T19 ["rules", "life", "house"] 16) [] (defScope s_taken) 1000000 16) (defBody s_taken) = some b_taken := by kernel_rfl
@[simp] theorem m_taken : F_taken.mask = [false, false, false] := rfl
theorem u_taken : F_taken.run = runF 3 [false, false, false] b_taken := rfl
def T20 : Tab := T19.add "taken" F_taken kw_taken
theorem sc_deleted : FnScope ["rules", "life"] ["rules", "life"] (defScope s_deleted) := ⟨rfl, rfl, rfl, by decide +kernel, rfl, by decide +kernel, by decide +kernel⟩
def kw_deleted : Nat → List Str → Option (List Nat) := noKw
def b_deleted : SS :=
    (sSeq (sIf (bOr (bTru (oTv (eOp2 ixD (oSl 1) (oTv (eC (.int 4)))))) (bOp2 isNotD (oTv (eOp2 ixD (oSl 1) (oTv (eC (.int 6))))) (oTv (eC .none))))
    (sSeq (sRet (eC .none))
    sNil)
    sNil)
    (sSeq (sRet (eIf (bOp2 ltD (oTv (eOp2 ixD (oSl 1) (oTv (eC (.int 3))))) (oTv (eOp2 ixD (oSl 0) (oTv (eC (.int 1)))))) (eTup (osCons (oTv (eC (.str "free"))) osNil)) (eCall F_fallen (aTv (eVar 0) (aTv (eOp2 ixD (oSl 1) (oTv (eC (.int 1)))) aNil)))))
    sNil))
def F_deleted : FnS := ⟨[false, false], runF 2 [false, false] b_deleted⟩
theorem c_deleted : cSs (cS ["rules", "life"] (co T20 ["rules", "life"] 16) [] (defScope s_deleted) 1000000 16) (defBody s_deleted) = some b_deleted := by kernel_rfl
@[simp] theorem m_deleted : F_deleted.mask = [false, false] := rfl
theorem u_deleted : F_deleted.run = runF 2 [false, false] b_deleted := rfl
def T21 : Tab := T20.add "deleted" F_deleted kw_deleted
theorem sc_renewed : FnScope ["rules", "life"] ["rules", "life"] (defScope s_renewed) := ⟨rfl, rfl, rfl, by decide +kernel, rfl, by decide +kernel, by decide +kernel⟩
def kw_renewed : Nat → List Str → Option (List Nat) := noKw
def b_renewed : SS :=
    (sSeq (sRet (eIf (bOp2 leD (oTv (eOp2 ixD (oSl 1) (oTv (eC (.int 2))))) (oTv (eOp2 ixD (oSl 0) (oTv (eC (.int 0)))))) (eOp2 addD (oTv (eOp2 addD (oTv (eSl (oSl 1) iNo (iSome (eC (.int 2))))) (oTv (eTup (osCons (oTv (eOp2 addD (oTv (eOp2 ixD (oSl 1) (oTv (eC (.int 2))))) (oTv (eOp2 ixD (oSl 0) (oTv (eC (.int 0))))))) osNil))))) (oTv (eSl (oSl 1) (iSome (eC (.int 3))) iNo))) (eC .none)))
    sNil)
def F_renewed : FnS := ⟨[false, false], runF 2 [false, false] b_renewed⟩
theorem c_renewed : cSs (cS ["rules", "life"] (co T21 ["rules", "life"] 16) [] (defScope s_renewed) 1000000 16) (defBody s_renewed) = some b_renewed := by kernel_rfl
@[simp] theorem m_renewed : F_renewed.mask = [false, false] := rfl
theorem u_renewed : F_renewed.run = runF 2 [false, false] b_renewed := rfl
def T22 : Tab := T21.add "renewed" F_renewed kw_renewed
theorem sc_done_held : FnScope ["rules", "life", "deed"] ["rules", "life", "deed"] (defScope s_done_held) := ⟨rfl, rfl, rfl, by decide +kernel, rfl, by decide +kernel, by decide +kernel⟩
def kw_done_held : Nat → List Str → Option (List Nat) := noKw
def b_done_held : SS :=
    (sSeq (sIf (bOp2 eqD (oSl 2) (oTv (eC (.str "renew"))))
    (sSeq (sRet (eCall F_renewed (aTv (eVar 0) (aTv (eVar 1) aNil))))
    sNil)
    sNil)
    (sSeq (sIf (bOp2 eqD (oSl 2) (oTv (eC (.str "delete"))))
    (sSeq (sRet (eCall F_deleted (aTv (eVar 0) (aTv (eVar 1) aNil))))
    sNil)
    sNil)
    (sSeq (sIf (bOp2 eqD (oSl 2) (oTv (eC (.str "lock"))))
    (sSeq (sRet (eIf (bOp2 isD (oTv (eOp2 ixD (oSl 1) (oTv (eC (.int 6))))) (oTv (eC .none))) (eOp2 addD (oTv (eOp2 addD (oTv (eSl (oSl 1) iNo (iSome (eC (.int 4))))) (oTv (eTup (osCons (oTv (eC (.bool true))) osNil))))) (oTv (eSl (oSl 1) (iSome (eC (.int 5))) iNo))) (eC .none)))
    sNil)
    sNil)
    (sSeq (sIf (bOp2 eqD (oSl 2) (oTv (eC (.str "unlock"))))
    (sSeq (sRet (eOp2 addD (oTv (eOp2 addD (oTv (eSl (oSl 1) iNo (iSome (eC (.int 4))))) (oTv (eTup (osCons (oTv (eC (.bool false))) osNil))))) (oTv (eSl (oSl 1) (iSome (eC (.int 5))) iNo))))
    sNil)
    sNil)
    (sSeq (sIf (bOp2 eqD (oSl 2) (oTv (eC (.str "code"))))
    (sSeq (sRet (eOp2 addD (oTv (eOp2 addD (oTv (eSl (oSl 1) iNo (iSome (eC (.int 5))))) (oTv (eTup (osCons (oTv (eC (.bool true))) osNil))))) (oTv (eSl (oSl 1) (iSome (eC (.int 6))) iNo))))
    sNil)
    sNil)
    (sSeq (sIf (bOp2 eqD (oSl 2) (oTv (eC (.str "agree"))))
    (sSeq (sRet (eIf (bOp2 isNotD (oTv (eOp2 ixD (oSl 1) (oTv (eC (.int 6))))) (oTv (eC .none))) (eCall F_moved (aTv (eVar 1) (aTv (eOp2 ixD (oTv (eOp2 ixD (oSl 1) (oTv (eC (.int 6))))) (oTv (eC (.int 0)))) aNil))) (eC .none)))
    sNil)
    sNil)
    (sSeq (sRet (eIf (bAnd (bOp2 eqD (oSl 2) (oTv (eC (.str "refuse")))) (bOp2 isNotD (oTv (eOp2 ixD (oSl 1) (oTv (eC (.int 6))))) (oTv (eC .none)))) (eOp2 addD (oTv (eSl (oSl 1) iNo (iSome (eC (.int 6))))) (oTv (eTup (osCons (oTv (eC .none)) osNil)))) (eC .none)))
    sNil)))))))
def F_done_held : FnS := ⟨[false, false, false], runF 3 [false, false, false] b_done_held⟩
theorem c_done_held : cSs (cS ["rules", "life", "deed"] (co T22 ["rules", "life", "deed"] 16) [] (defScope s_done_held) 1000000 16) (defBody s_done_held) = some b_done_held := by kernel_rfl
@[simp] theorem m_done_held : F_done_held.mask = [false, false, false] := rfl
theorem u_done_held : F_done_held.run = runF 3 [false, false, false] b_done_held := rfl
def T23 : Tab := T22.add "done_held" F_done_held kw_done_held
theorem sc_revived : FnScope ["rules", "house"] ["rules", "house"] (defScope s_revived) := ⟨rfl, rfl, rfl, by decide +kernel, rfl, by decide +kernel, by decide +kernel⟩
def kw_revived : Nat → List Str → Option (List Nat) := noKw
def b_revived : SS :=
    (sSeq (sRet (eTup (osCons (oTv (eC (.str "held"))) (osCons (oTv (eVar 1)) (osCons (oTv (eOp2 ixD (oSl 0) (oTv (eC (.int 0))))) (osCons (oTv (eCall F_greatest_age (aTv (eVar 0) aNil))) (osCons (oTv (eC (.bool false))) (osCons (oTv (eC (.bool false))) (osCons (oTv (eC .none)) osNil)))))))))
    sNil)
def F_revived : FnS := ⟨[false, false], runF 2 [false, false] b_revived⟩
theorem c_revived : cSs (cS ["rules", "house"] (co T23 ["rules", "house"] 16) [] (defScope s_revived) 1000000 16) (defBody s_revived) = some b_revived := by kernel_rfl
@[simp] theorem m_revived : F_revived.mask = [false, false] := rfl
theorem u_revived : F_revived.run = runF 2 [false, false] b_revived := rfl
def T24 : Tab := T23.add "revived" F_revived kw_revived
theorem sc_done_late : FnScope ["rules", "life", "deed"] ["rules", "life", "deed"] (defScope s_done_late) := ⟨rfl, rfl, rfl, by decide +kernel, rfl, by decide +kernel, by decide +kernel⟩
def kw_done_late : Nat → List Str → Option (List Nat) := noKw
def b_done_late : SS :=
    (sSeq (sIf (bOr (bAnd (bOp2 eqD (oTv (eOp2 ixD (oSl 1) (oTv (eC (.int 0))))) (oTv (eC (.str "grace")))) (bOp2 eqD (oSl 2) (oTv (eC (.str "renew"))))) (bAnd (bOp2 eqD (oTv (eOp2 ixD (oSl 1) (oTv (eC (.int 0))))) (oTv (eC (.str "hold")))) (bOp2 eqD (oSl 2) (oTv (eC (.str "redeem"))))))
    (sSeq (sRet (eCall F_revived (aTv (eVar 0) (aTv (eOp2 ixD (oSl 1) (oTv (eC (.int 1)))) aNil))))
    sNil)
    sNil)
    (sSeq (sRet (eIf (bAnd (bOp2 eqD (oTv (eOp2 ixD (oSl 1) (oTv (eC (.int 0))))) (oTv (eC (.str "grace")))) (bOp2 eqD (oSl 2) (oTv (eC (.str "delete"))))) (eCall F_fallen (aTv (eVar 0) (aTv (eOp2 ixD (oSl 1) (oTv (eC (.int 1)))) aNil))) (eC .none)))
    sNil))
def F_done_late : FnS := ⟨[false, false, false], runF 3 [false, false, false] b_done_late⟩
theorem c_done_late : cSs (cS ["rules", "life", "deed"] (co T24 ["rules", "life", "deed"] 16) [] (defScope s_done_late) 1000000 16) (defBody s_done_late) = some b_done_late := by kernel_rfl
@[simp] theorem m_done_late : F_done_late.mask = [false, false, false] := rfl
theorem u_done_late : F_done_late.run = runF 3 [false, false, false] b_done_late := rfl
def T25 : Tab := T24.add "done_late" F_done_late kw_done_late
theorem sc_done_by : FnScope ["rules", "life", "house", "deed"] ["rules", "life", "house", "deed"] (defScope s_done_by) := ⟨rfl, rfl, rfl, by decide +kernel, rfl, by decide +kernel, by decide +kernel⟩
def kw_done_by : Nat → List Str → Option (List Nat) := noKw
def b_done_by : SS :=
    (sSeq (sIf (bOp2 eqD (oSl 3) (oTv (eC (.str "create"))))
    (sSeq (sRet (eIf (bOp2 eqD (oTv (eOp2 ixD (oSl 1) (oTv (eC (.int 0))))) (oTv (eC (.str "free")))) (eCall F_created (aTv (eVar 0) (aTv (eVar 2) aNil))) (eC .none)))
    sNil)
    sNil)
    (sSeq (sIf (bOp2 eqD (oSl 3) (oTv (eC (.str "take"))))
    (sSeq (sRet (eCall F_taken (aTv (eVar 0) (aTv (eVar 1) (aTv (eVar 2) aNil)))))
    sNil)
    sNil)
    (sSeq (sIf (bOp2 neD (oTv (eCall F_holder_of (aTv (eVar 1) aNil))) (oSl 2))
    (sSeq (sRet (eC .none))
    sNil)
    sNil)
    (sSeq (sRet (eIf (bOp2 eqD (oTv (eOp2 ixD (oSl 1) (oTv (eC (.int 0))))) (oTv (eC (.str "held")))) (eCall F_done_held (aTv (eVar 0) (aTv (eVar 1) (aTv (eVar 3) aNil)))) (eCall F_done_late (aTv (eVar 0) (aTv (eVar 1) (aTv (eVar 3) aNil))))))
    sNil))))
def F_done_by : FnS := ⟨[false, false, false, false], runF 4 [false, false, false, false] b_done_by⟩
theorem c_done_by : cSs (cS ["rules", "life", "house", "deed"] (co T25 ["rules", "life", "house", "deed"] 16) [] (defScope s_done_by) 1000000 16) (defBody s_done_by) = some b_done_by := by kernel_rfl
@[simp] theorem m_done_by : F_done_by.mask = [false, false, false, false] := rfl
theorem u_done_by : F_done_by.run = runF 4 [false, false, false, false] b_done_by := rfl
def T26 : Tab := T25.add "done_by" F_done_by kw_done_by
theorem sc_answered_by : FnScope ["rules", "life", "house", "deed", "found"] ["rules", "life", "house", "deed"] (defScope s_answered_by) := ⟨rfl, rfl, rfl, by decide +kernel, rfl, by decide +kernel, by decide +kernel⟩
def kw_answered_by : Nat → List Str → Option (List Nat) := noKw
def b_answered_by : SS :=
    (sSeq (sSet [] 4 (eCall F_done_by (aTv (eVar 0) (aTv (eVar 1) (aTv (eVar 2) (aTv (eVar 3) aNil))))))
    (sSeq (sRet (eIf (bOp2 isNotD (oSl 4) (oTv (eC .none))) (eTup (osCons (oTv (eVar 4)) (osCons (oTv (eC (.str "done"))) osNil))) (eTup (osCons (oTv (eVar 1)) (osCons (oTv (eC (.str "refused"))) osNil)))))
    sNil))
def F_answered_by : FnS := ⟨[false, false, false, false], runF 5 [false, false, false, false] b_answered_by⟩
theorem c_answered_by : cSs (cS ["rules", "life", "house", "deed", "found"] (co T26 ["rules", "life", "house", "deed", "found"] 16) [] (defScope s_answered_by) 1000000 16) (defBody s_answered_by) = some b_answered_by := by kernel_rfl
@[simp] theorem m_answered_by : F_answered_by.mask = [false, false, false, false] := rfl
theorem u_answered_by : F_answered_by.run = runF 5 [false, false, false, false] b_answered_by := rfl
def T27 : Tab := T26.add "answered_by" F_answered_by kw_answered_by
theorem sc_life_behind_day : FnScope ["rules", "life", "letters", "here", "house", "deed", "told", "answer"] ["rules", "life", "letters"] (defScope s_life_behind_day) := ⟨rfl, rfl, rfl, by decide +kernel, rfl, by decide +kernel, by decide +kernel⟩
def kw_life_behind_day : Nat → List Str → Option (List Nat) := noKw
def q_life_behind_day_1 : SS :=
    (sSeq (sAsg (eCall F_answered_by (aTv (eVar 0) (aTv (eVar 3) (aTv (eVar 4) (aTv (eVar 5) aNil))))) (gTn 2 (gCons (gN [] 3) (gCons (gN [] 7) gNil))))
    (sSeq (sIf (bOp2 neD (oSl 7) (oSl 6))
    (sSeq (sRet (eC .none))
    sNil)
    sNil)
    sNil))
def b_life_behind_day : SS :=
    (sSeq (sSet [] 3 (eCall F_turned_by (aTv (eVar 0) (aTv (eVar 1) aNil))))
    (sSeq (sFor (iSeq (eVar 2)) (gTn 3 (gCons (gN [] 4) (gCons (gN [] 5) (gCons (gN [] 6) gNil)))) q_life_behind_day_1)
    (sSeq (sRetV [] 3)
    sNil)))
def F_life_behind_day : FnS := ⟨[false, false, false], runF 8 [false, false, false] b_life_behind_day⟩
theorem c_life_behind_day : cSs (cS ["rules", "life", "letters", "here", "house", "deed", "told", "answer"] (co T27 ["rules", "life", "letters", "here", "house", "deed", "told", "answer"] 16) [] (defScope s_life_behind_day) 1000000 16) (defBody s_life_behind_day) = some b_life_behind_day := by kernel_rfl
@[simp] theorem m_life_behind_day : F_life_behind_day.mask = [false, false, false] := rfl
theorem u_life_behind_day : F_life_behind_day.run = runF 8 [false, false, false] b_life_behind_day := rfl
def T28 : Tab := T27.add "life_behind_day" F_life_behind_day kw_life_behind_day
theorem sc_lives_along : FnScope ["rules", "view", "truth", "found", "letters", "here"] ["rules", "view", "truth"] (defScope s_lives_along) := ⟨rfl, rfl, rfl, by decide +kernel, rfl, by decide +kernel, by decide +kernel⟩
def kw_lives_along : Nat → List Str → Option (List Nat) := noKw
def q_lives_along_1 : SS :=
    (sSeq (sSet [] 5 (eCall F_life_behind_day (aTv (eVar 0) (aTv (eOp2 ixD (oSl 3) (oTv (eOp1 negD (oTv (eC (.int 1)))))) (aTv (eVar 4) aNil)))))
    (sSeq (sIf (bOp2 isD (oSl 5) (oTv (eC .none)))
    (sSeq (sRet (eLst osNil))
    sNil)
    sNil)
    (sSeq (sDrop (eApp 3 (eVar 5)))
    sNil)))
def b_lives_along : SS :=
    (sSeq (sSet [] 3 (eLst (osCons (oTv (eOp2 ixD (oSl 1) (oTv (eC (.int 1))))) osNil)))
    (sSeq (sFor (iSeq (eVar 2)) (gN [] 4) q_lives_along_1)
    (sSeq (sRetV [] 3)
    sNil)))
def F_lives_along : FnS := ⟨[false, false, false], runF 6 [false, false, false] b_lives_along⟩
theorem c_lives_along : cSs (cS ["rules", "view", "truth", "found", "letters", "here"] (co T28 ["rules", "view", "truth", "found", "letters", "here"] 16) [] (defScope s_lives_along) 1000000 16) (defBody s_lives_along) = some b_lives_along := by kernel_rfl
@[simp] theorem m_lives_along : F_lives_along.mask = [false, false, false] := rfl
theorem u_lives_along : F_lives_along.run = runF 6 [false, false, false] b_lives_along := rfl
def T29 : Tab := T28.add "lives_along" F_lives_along kw_lives_along
theorem sc_is_truth_by : FnScope ["rules", "view", "value", "letters", "each"] ["rules", "view", "value"] (defScope s_is_truth_by) := ⟨rfl, rfl, rfl, by decide +kernel, rfl, by decide +kernel, by decide +kernel⟩
def kw_is_truth_by : Nat → List Str → Option (List Nat) := noKw
def q_is_truth_by_1 : ME :=
    (eCall F_is_came (aTv (eVar 4) aNil))
def q_is_truth_by_2 : ME :=
    (eIsi ["tuple"] (oSl 3))
def b_is_truth_by : SS :=
    (sSeq (sIf (bOr (bNot (bTru (oTv (eCall F_is_tuple_of (aTv (eVar 2) (aTv (eOp2 ixD (oSl 1) (oTv (eC (.int 2)))) aNil)))))) (bNot (bTru (oTv (eB allD (osCons (oTv (eLc [3] (iSeq (eVar 2)) (gN [] 3) bYes q_is_truth_by_2)) osNil))))))
    (sSeq (sRet (eC (.bool false)))
    sNil)
    sNil)
    (sSeq (sIf (bNot (bTru (oTv (eB allD (osCons (oTv (eLc2 [3, 4] [4] (iSeq (eVar 2)) (gN [] 3) bYes (iSeq (eVar 3)) (gN [] 4) bYes q_is_truth_by_1)) osNil)))))
    (sSeq (sRet (eC (.bool false)))
    sNil)
    sNil)
    (sSeq (sRet (eOp2 neD (oTv (eCall F_lives_along (aTv (eVar 0) (aTv (eVar 1) (aTv (eVar 2) aNil))))) (oTv (eLst osNil))))
    sNil)))
def F_is_truth_by : FnS := ⟨[false, false, false], runF 5 [false, false, false] b_is_truth_by⟩
theorem c_is_truth_by : cSs (cS ["rules", "view", "value", "letters", "each"] (co T29 ["rules", "view", "value", "letters", "each"] 16) [] (defScope s_is_truth_by) 1000000 16) (defBody s_is_truth_by) = some b_is_truth_by := by kernel_rfl
@[simp] theorem m_is_truth_by : F_is_truth_by.mask = [false, false, false] := rfl
theorem u_is_truth_by : F_is_truth_by.run = runF 5 [false, false, false] b_is_truth_by := rfl
def T30 : Tab := T29.add "is_truth_by" F_is_truth_by kw_is_truth_by
theorem sc_is_between : FnScope ["value", "low", "high"] ["value", "low", "high"] (defScope s_is_between) := ⟨rfl, rfl, rfl, by decide +kernel, rfl, by decide +kernel, by decide +kernel⟩
def kw_is_between : Nat → List Str → Option (List Nat) := noKw
def b_is_between : SS :=
    (sSeq (sRet (eAnd (eCall F_is_number (aTv (eVar 0) aNil)) (eChain leD leD (oSl 1) (oSl 0) (oSl 2))))
    sNil)
def F_is_between : FnS := ⟨[false, false, false], runF 3 [false, false, false] b_is_between⟩
theorem c_is_between : cSs (cS ["value", "low", "high"] (co T30 ["value", "low", "high"] 16) [] (defScope s_is_between) 1000000 16) (defBody s_is_between) = some b_is_between := by kernel_rfl
@[simp] theorem m_is_between : F_is_between.mask = [false, false, false] := rfl
theorem u_is_between : F_is_between.run = runF 3 [false, false, false] b_is_between := rfl
def T31 : Tab := T30.add "is_between" F_is_between kw_is_between
theorem sc_is_truth_values : FnScope ["value"] ["value"] (defScope s_is_truth_values) := ⟨rfl, rfl, rfl, by decide +kernel, rfl, by decide +kernel, by decide +kernel⟩
def kw_is_truth_values : Nat → List Str → Option (List Nat) := noKw
def b_is_truth_values : SS :=
    (sSeq (sRet (eIsi ["bool"] (oSl 0)))
    sNil)
def F_is_truth_values : FnS := ⟨[false], runF 1 [false] b_is_truth_values⟩
theorem c_is_truth_values : cSs (cS ["value"] (co T31 ["value"] 16) [] (defScope s_is_truth_values) 1000000 16) (defBody s_is_truth_values) = some b_is_truth_values := by kernel_rfl
@[simp] theorem m_is_truth_values : F_is_truth_values.mask = [false] := rfl
theorem u_is_truth_values : F_is_truth_values.run = runF 1 [false] b_is_truth_values := rfl
def T32 : Tab := T31.add "is_truth_values" F_is_truth_values kw_is_truth_values
theorem sc_is_rules_by : FnScope ["value", "each"] ["value"] (defScope s_is_rules_by) := ⟨rfl, rfl, rfl, by decide +kernel, rfl, by decide +kernel, by decide +kernel⟩
def kw_is_rules_by : Nat → List Str → Option (List Nat) := noKw
def q_is_rules_by_1 : ME :=
    (eCall F_is_up_to (aTv (eVar 1) (aTv (eC (.int 4)) aNil)))
def b_is_rules_by : SS :=
    (sSeq (sIf (bOr (bNot (bTru (oTv (eIsi ["tuple"] (oSl 0))))) (bOr (bOp2 neD (oTv (eB lenD (osCons (oSl 0) osNil))) (oTv (eC (.int 8)))) (bNot (bTru (oTv (eCall F_is_between (aTv (eOp2 ixD (oSl 0) (oTv (eC (.int 0)))) (aTv (eC (.int 1)) (aTv (eC (.int 9)) aNil)))))))))
    (sSeq (sRet (eC (.bool false)))
    sNil)
    sNil)
    (sSeq (sIf (bNot (bTru (oTv (eB allD (osCons (oTv (eLc [1] (iSeq (eSl (oSl 0) (iSome (eC (.int 1))) (iSome (eC (.int 6))))) (gN [] 1) bYes q_is_rules_by_1)) osNil)))))
    (sSeq (sRet (eC (.bool false)))
    sNil)
    sNil)
    (sSeq (sRet (eAnd (eCall F_is_between (aTv (eOp2 ixD (oSl 0) (oTv (eC (.int 6)))) (aTv (eC (.int 1)) (aTv (eC (.int 4)) aNil)))) (eCall F_is_truth_values (aTv (eOp2 ixD (oSl 0) (oTv (eC (.int 7)))) aNil))))
    sNil)))
def F_is_rules_by : FnS := ⟨[false], runF 2 [false] b_is_rules_by⟩
theorem c_is_rules_by : cSs (cS ["value", "each"] (co T32 ["value", "each"] 16) [] (defScope s_is_rules_by) 1000000 16) (defBody s_is_rules_by) = some b_is_rules_by := by kernel_rfl
@[simp] theorem m_is_rules_by : F_is_rules_by.mask = [false] := rfl
theorem u_is_rules_by : F_is_rules_by.run = runF 2 [false] b_is_rules_by := rfl
def T33 : Tab := T32.add "is_rules_by" F_is_rules_by kw_is_rules_by
theorem sc_check_rules : FnScope ["value"] ["value"] (defScope s_check_rules) := ⟨rfl, rfl, rfl, by decide +kernel, rfl, by decide +kernel, by decide +kernel⟩
def kw_check_rules : Nat → List Str → Option (List Nat) := noKw
def b_check_rules : SS :=
    (sSeq (sIf (bNot (bTru (oTv (eCall F_is_rules_by (aTv (eVar 0) aNil)))))
    (sSeq sBad
    sNil)
    sNil)
    sNil)
def F_check_rules : FnS := ⟨[false], runF 1 [false] b_check_rules⟩
theorem c_check_rules : cSs (cS ["value"] (co T33 ["value"] 16) [] (defScope s_check_rules) 1000000 16) (defBody s_check_rules) = some b_check_rules := by kernel_rfl
@[simp] theorem m_check_rules : F_check_rules.mask = [false] := rfl
theorem u_check_rules : F_check_rules.run = runF 1 [false] b_check_rules := rfl
def T34 : Tab := T33.add "check_rules" F_check_rules kw_check_rules
theorem sc_is_ask : FnScope ["rules", "value", "house"] ["rules", "value", "house"] (defScope s_is_ask) := ⟨rfl, rfl, rfl, by decide +kernel, rfl, by decide +kernel, by decide +kernel⟩
def kw_is_ask : Nat → List Str → Option (List Nat) := noKw
def b_is_ask : SS :=
    (sSeq (sIf (bOp2 isD (oSl 1) (oTv (eC .none)))
    (sSeq (sRet (eC (.bool true)))
    sNil)
    sNil)
    (sSeq (sIf (bOr (bNot (bTru (oTv (eIsi ["tuple"] (oSl 1))))) (bOr (bOp2 neD (oTv (eB lenD (osCons (oSl 1) osNil))) (oTv (eC (.int 2)))) (bNot (bTru (oTv (eCall F_is_house (aTv (eOp2 ixD (oSl 1) (oTv (eC (.int 0)))) aNil)))))))
    (sSeq (sRet (eC (.bool false)))
    sNil)
    sNil)
    (sSeq (sRet (eAnd (eOp2 neD (oTv (eOp2 ixD (oSl 1) (oTv (eC (.int 0))))) (oSl 2)) (eCall F_is_between (aTv (eOp2 ixD (oSl 1) (oTv (eC (.int 1)))) (aTv (eC (.int 1)) (aTv (eOp2 ixD (oSl 0) (oTv (eC (.int 6)))) aNil))))))
    sNil)))
def F_is_ask : FnS := ⟨[false, false, false], runF 3 [false, false, false] b_is_ask⟩
theorem c_is_ask : cSs (cS ["rules", "value", "house"] (co T34 ["rules", "value", "house"] 16) [] (defScope s_is_ask) 1000000 16) (defBody s_is_ask) = some b_is_ask := by kernel_rfl
@[simp] theorem m_is_ask : F_is_ask.mask = [false, false, false] := rfl
theorem u_is_ask : F_is_ask.run = runF 3 [false, false, false] b_is_ask := rfl
def T35 : Tab := T34.add "is_ask" F_is_ask kw_is_ask
theorem sc_is_held : FnScope ["rules", "value"] ["rules", "value"] (defScope s_is_held) := ⟨rfl, rfl, rfl, by decide +kernel, rfl, by decide +kernel, by decide +kernel⟩
def kw_is_held : Nat → List Str → Option (List Nat) := noKw
def b_is_held : SS :=
    (sSeq (sIf (bOr (bOp2 neD (oTv (eB lenD (osCons (oSl 1) osNil))) (oTv (eC (.int 7)))) (bOr (bNot (bTru (oTv (eCall F_is_house (aTv (eOp2 ixD (oSl 1) (oTv (eC (.int 1)))) aNil))))) (bNot (bTru (oTv (eCall F_is_between (aTv (eOp2 ixD (oSl 1) (oTv (eC (.int 2)))) (aTv (eC (.int 1)) (aTv (eOp2 mulD (oTv (eC (.int 2))) (oTv (eOp2 ixD (oSl 0) (oTv (eC (.int 0)))))) aNil)))))))))
    (sSeq (sRet (eC (.bool false)))
    sNil)
    sNil)
    (sSeq (sIf (bOr (bNot (bTru (oTv (eCall F_is_up_to (aTv (eOp2 ixD (oSl 1) (oTv (eC (.int 3)))) (aTv (eCall F_greatest_age (aTv (eVar 0) aNil)) aNil)))))) (bOr (bNot (bTru (oTv (eCall F_is_truth_values (aTv (eOp2 ixD (oSl 1) (oTv (eC (.int 4)))) aNil))))) (bNot (bTru (oTv (eCall F_is_truth_values (aTv (eOp2 ixD (oSl 1) (oTv (eC (.int 5)))) aNil)))))))
    (sSeq (sRet (eC (.bool false)))
    sNil)
    sNil)
    (sSeq (sRet (eCall F_is_ask (aTv (eVar 0) (aTv (eOp2 ixD (oSl 1) (oTv (eC (.int 6)))) (aTv (eOp2 ixD (oSl 1) (oTv (eC (.int 1)))) aNil)))))
    sNil)))
def F_is_held : FnS := ⟨[false, false], runF 2 [false, false] b_is_held⟩
theorem c_is_held : cSs (cS ["rules", "value"] (co T35 ["rules", "value"] 16) [] (defScope s_is_held) 1000000 16) (defBody s_is_held) = some b_is_held := by kernel_rfl
@[simp] theorem m_is_held : F_is_held.mask = [false, false] := rfl
theorem u_is_held : F_is_held.run = runF 2 [false, false] b_is_held := rfl
def T36 : Tab := T35.add "is_held" F_is_held kw_is_held
theorem sc_is_life_by : FnScope ["rules", "value"] ["rules", "value"] (defScope s_is_life_by) := ⟨rfl, rfl, rfl, by decide +kernel, rfl, by decide +kernel, by decide +kernel⟩
def kw_is_life_by : Nat → List Str → Option (List Nat) := noKw
def b_is_life_by : SS :=
    (sSeq (sIf (bOr (bNot (bTru (oTv (eIsi ["tuple"] (oSl 1))))) (bOr (bOp2 eqD (oTv (eB lenD (osCons (oSl 1) osNil))) (oTv (eC (.int 0)))) (bNot (bTru (oTv (eCall F_is_named (aTv (eOp2 ixD (oSl 1) (oTv (eC (.int 0)))) (aTv (eC C_WORDS) aNil))))))))
    (sSeq (sRet (eC (.bool false)))
    sNil)
    sNil)
    (sSeq (sIf (bOp2 eqD (oTv (eOp2 ixD (oSl 1) (oTv (eC (.int 0))))) (oTv (eC (.str "free"))))
    (sSeq (sRet (eOp2 eqD (oTv (eB lenD (osCons (oSl 1) osNil))) (oTv (eC (.int 1)))))
    sNil)
    sNil)
    (sSeq (sIf (bOp2 eqD (oTv (eOp2 ixD (oSl 1) (oTv (eC (.int 0))))) (oTv (eC (.str "held"))))
    (sSeq (sRet (eCall F_is_held (aTv (eVar 0) (aTv (eVar 1) aNil))))
    sNil)
    sNil)
    (sSeq (sIf (bOp2 eqD (oTv (eOp2 ixD (oSl 1) (oTv (eC (.int 0))))) (oTv (eC (.str "wait"))))
    (sSeq (sRet (eAnd (eOp2 eqD (oTv (eB lenD (osCons (oSl 1) osNil))) (oTv (eC (.int 2)))) (eCall F_is_between (aTv (eOp2 ixD (oSl 1) (oTv (eC (.int 1)))) (aTv (eC (.int 1)) (aTv (eOp2 ixD (oSl 0) (oTv (eC (.int 4)))) aNil))))))
    sNil)
    sNil)
    (sSeq (sIf (bOr (bOp2 neD (oTv (eB lenD (osCons (oSl 1) osNil))) (oTv (eC (.int 3)))) (bNot (bTru (oTv (eCall F_is_house (aTv (eOp2 ixD (oSl 1) (oTv (eC (.int 1)))) aNil))))))
    (sSeq (sRet (eC (.bool false)))
    sNil)
    sNil)
    (sSeq (sRet (eCall F_is_between (aTv (eOp2 ixD (oSl 1) (oTv (eC (.int 2)))) (aTv (eC (.int 1)) (aTv (eIf (bOp2 eqD (oTv (eOp2 ixD (oSl 1) (oTv (eC (.int 0))))) (oTv (eC (.str "grace")))) (eOp2 ixD (oSl 0) (oTv (eC (.int 2)))) (eOp2 ixD (oSl 0) (oTv (eC (.int 3))))) aNil)))))
    sNil))))))
def F_is_life_by : FnS := ⟨[false, false], runF 2 [false, false] b_is_life_by⟩
theorem c_is_life_by : cSs (cS ["rules", "value"] (co T36 ["rules", "value"] 16) [] (defScope s_is_life_by) 1000000 16) (defBody s_is_life_by) = some b_is_life_by := by kernel_rfl
@[simp] theorem m_is_life_by : F_is_life_by.mask = [false, false] := rfl
theorem u_is_life_by : F_is_life_by.run = runF 2 [false, false] b_is_life_by := rfl
def T37 : Tab := T36.add "is_life_by" F_is_life_by kw_is_life_by
theorem sc_is_sent : FnScope ["value", "days"] ["value", "days"] (defScope s_is_sent) := ⟨rfl, rfl, rfl, by decide +kernel, rfl, by decide +kernel, by decide +kernel⟩
def kw_is_sent : Nat → List Str → Option (List Nat) := noKw
def b_is_sent : SS :=
    (sSeq (sIf (bOr (bNot (bTru (oTv (eCall F_is_tuple_of (aTv (eVar 0) (aTv (eC (.int 3)) aNil)))))) (bOr (bNot (bTru (oTv (eCall F_is_between (aTv (eOp2 ixD (oSl 0) (oTv (eC (.int 0)))) (aTv (eC (.int 1)) (aTv (eVar 1) aNil))))))) (bNot (bTru (oTv (eCall F_is_named (aTv (eOp2 ixD (oSl 0) (oTv (eC (.int 1)))) (aTv (eC C_DEEDS) aNil))))))))
    (sSeq (sRet (eC (.bool false)))
    sNil)
    sNil)
    (sSeq (sRet (eOr (eOp2 isD (oTv (eOp2 ixD (oSl 0) (oTv (eC (.int 2))))) (oTv (eC .none))) (eCall F_is_named (aTv (eOp2 ixD (oSl 0) (oTv (eC (.int 2)))) (aTv (eTup (osCons (oTv (eC (.str "done"))) (osCons (oTv (eC (.str "refused"))) osNil))) aNil)))))
    sNil))
def F_is_sent : FnS := ⟨[false, false], runF 2 [false, false] b_is_sent⟩
theorem c_is_sent : cSs (cS ["value", "days"] (co T37 ["value", "days"] 16) [] (defScope s_is_sent) 1000000 16) (defBody s_is_sent) = some b_is_sent := by kernel_rfl
@[simp] theorem m_is_sent : F_is_sent.mask = [false, false] := rfl
theorem u_is_sent : F_is_sent.run = runF 2 [false, false] b_is_sent := rfl
def T38 : Tab := T37.add "is_sent" F_is_sent kw_is_sent
theorem sc_are_sent : FnScope ["value", "days", "each", "one", "two"] ["value", "days"] (defScope s_are_sent) := ⟨rfl, rfl, rfl, by decide +kernel, rfl, by decide +kernel, by decide +kernel⟩
def kw_are_sent : Nat → List Str → Option (List Nat) := noKw
def q_are_sent_1 : ME :=
    (eOp2 leD (oTv (eOp2 ixD (oSl 3) (oTv (eC (.int 0))))) (oTv (eOp2 ixD (oSl 4) (oTv (eC (.int 0))))))
def q_are_sent_2 : ME :=
    (eCall F_is_sent (aTv (eVar 2) (aTv (eVar 1) aNil)))
def b_are_sent : SS :=
    (sSeq (sIf (bOr (bNot (bTru (oTv (eCall F_is_tuple_up_to (aTv (eVar 0) (aTv (eC (.int 0)) (aTv (eC (.int 5)) aNil))))))) (bNot (bTru (oTv (eB allD (osCons (oTv (eLc [2] (iSeq (eVar 0)) (gN [] 2) bYes q_are_sent_2)) osNil))))))
    (sSeq (sRet (eC (.bool false)))
    sNil)
    sNil)
    (sSeq (sRet (eB allD (osCons (oTv (eLc [3, 4] (iFn zpD (osCons (oTv (eVar 0)) (osCons (oTv (eSl (oSl 0) (iSome (eC (.int 1))) iNo)) osNil))) (gTn 2 (gCons (gN [] 3) (gCons (gN [] 4) gNil))) bYes q_are_sent_1)) osNil)))
    sNil))
def F_are_sent : FnS := ⟨[false, false], runF 5 [false, false] b_are_sent⟩
theorem c_are_sent : cSs (cS ["value", "days", "each", "one", "two"] (co T38 ["value", "days", "each", "one", "two"] 16) [] (defScope s_are_sent) 1000000 16) (defBody s_are_sent) = some b_are_sent := by kernel_rfl
@[simp] theorem m_are_sent : F_are_sent.mask = [false, false] := rfl
theorem u_are_sent : F_are_sent.run = runF 5 [false, false] b_are_sent := rfl
def T39 : Tab := T38.add "are_sent" F_are_sent kw_are_sent
theorem sc_are_rising : FnScope ["values", "one", "two"] ["values"] (defScope s_are_rising) := ⟨rfl, rfl, rfl, by decide +kernel, rfl, by decide +kernel, by decide +kernel⟩
def kw_are_rising : Nat → List Str → Option (List Nat) := noKw
def q_are_rising_1 : ME :=
    (eOp2 ltD (oSl 1) (oSl 2))
def b_are_rising : SS :=
    (sSeq (sRet (eB allD (osCons (oTv (eLc [1, 2] (iFn zpD (osCons (oTv (eVar 0)) (osCons (oTv (eSl (oSl 0) (iSome (eC (.int 1))) iNo)) osNil))) (gTn 2 (gCons (gN [] 1) (gCons (gN [] 2) gNil))) bYes q_are_rising_1)) osNil)))
    sNil)
def F_are_rising : FnS := ⟨[false], runF 3 [false] b_are_rising⟩
theorem c_are_rising : cSs (cS ["values", "one", "two"] (co T39 ["values", "one", "two"] 16) [] (defScope s_are_rising) 1000000 16) (defBody s_are_rising) = some b_are_rising := by kernel_rfl
@[simp] theorem m_are_rising : F_are_rising.mask = [false] := rfl
theorem u_are_rising : F_are_rising.run = runF 3 [false] b_are_rising := rfl
def T40 : Tab := T39.add "are_rising" F_are_rising kw_are_rising
theorem sc_is_seen : FnScope ["value", "days"] ["value", "days"] (defScope s_is_seen) := ⟨rfl, rfl, rfl, by decide +kernel, rfl, by decide +kernel, by decide +kernel⟩
def kw_is_seen : Nat → List Str → Option (List Nat) := noKw
def b_is_seen : SS :=
    (sSeq (sIf (bOr (bNot (bTru (oTv (eCall F_is_tuple_of (aTv (eVar 0) (aTv (eC (.int 3)) aNil)))))) (bOr (bNot (bTru (oTv (eCall F_is_between (aTv (eOp2 ixD (oSl 0) (oTv (eC (.int 0)))) (aTv (eC (.int 1)) (aTv (eVar 1) aNil))))))) (bNot (bTru (oTv (eCall F_is_named (aTv (eOp2 ixD (oSl 0) (oTv (eC (.int 1)))) (aTv (eC C_WORDS) aNil))))))))
    (sSeq (sRet (eC (.bool false)))
    sNil)
    sNil)
    (sSeq (sRet (eOr (eOp2 isD (oTv (eOp2 ixD (oSl 0) (oTv (eC (.int 2))))) (oTv (eC .none))) (eCall F_is_house (aTv (eOp2 ixD (oSl 0) (oTv (eC (.int 2)))) aNil))))
    sNil))
def F_is_seen : FnS := ⟨[false, false], runF 2 [false, false] b_is_seen⟩
theorem c_is_seen : cSs (cS ["value", "days"] (co T40 ["value", "days"] 16) [] (defScope s_is_seen) 1000000 16) (defBody s_is_seen) = some b_is_seen := by kernel_rfl
@[simp] theorem m_is_seen : F_is_seen.mask = [false, false] := rfl
theorem u_is_seen : F_is_seen.run = runF 2 [false, false] b_is_seen := rfl
def T41 : Tab := T40.add "is_seen" F_is_seen kw_is_seen
theorem sc_are_seen : FnScope ["value", "days", "each"] ["value", "days"] (defScope s_are_seen) := ⟨rfl, rfl, rfl, by decide +kernel, rfl, by decide +kernel, by decide +kernel⟩
def kw_are_seen : Nat → List Str → Option (List Nat) := noKw
def q_are_seen_1 : ME :=
    (eOp2 ixD (oSl 2) (oTv (eC (.int 0))))
def q_are_seen_2 : ME :=
    (eCall F_is_seen (aTv (eVar 2) (aTv (eVar 1) aNil)))
def b_are_seen : SS :=
    (sSeq (sIf (bOr (bNot (bTru (oTv (eCall F_is_tuple_up_to (aTv (eVar 0) (aTv (eC (.int 0)) (aTv (eVar 1) aNil))))))) (bNot (bTru (oTv (eB allD (osCons (oTv (eLc [2] (iSeq (eVar 0)) (gN [] 2) bYes q_are_seen_2)) osNil))))))
    (sSeq (sRet (eC (.bool false)))
    sNil)
    sNil)
    (sSeq (sRet (eCall F_are_rising (aTv (eLc [2] (iSeq (eVar 0)) (gN [] 2) bYes q_are_seen_1) aNil)))
    sNil))
def F_are_seen : FnS := ⟨[false, false], runF 3 [false, false] b_are_seen⟩
theorem c_are_seen : cSs (cS ["value", "days", "each"] (co T41 ["value", "days", "each"] 16) [] (defScope s_are_seen) 1000000 16) (defBody s_are_seen) = some b_are_seen := by kernel_rfl
@[simp] theorem m_are_seen : F_are_seen.mask = [false, false] := rfl
theorem u_are_seen : F_are_seen.run = runF 3 [false, false] b_are_seen := rfl
def T42 : Tab := T41.add "are_seen" F_are_seen kw_are_seen
theorem sc_is_view_by : FnScope ["rules", "value"] ["rules", "value"] (defScope s_is_view_by) := ⟨rfl, rfl, rfl, by decide +kernel, rfl, by decide +kernel, by decide +kernel⟩
def kw_is_view_by : Nat → List Str → Option (List Nat) := noKw
def b_is_view_by : SS :=
    (sSeq (sIf (bOr (bNot (bTru (oTv (eCall F_is_tuple_of (aTv (eVar 1) (aTv (eC (.int 5)) aNil)))))) (bOr (bNot (bTru (oTv (eCall F_is_house (aTv (eOp2 ixD (oSl 1) (oTv (eC (.int 0)))) aNil))))) (bNot (bTru (oTv (eCall F_is_life_by (aTv (eVar 0) (aTv (eOp2 ixD (oSl 1) (oTv (eC (.int 1)))) aNil))))))))
    (sSeq (sRet (eC (.bool false)))
    sNil)
    sNil)
    (sSeq (sIf (bNot (bTru (oTv (eCall F_is_up_to (aTv (eOp2 ixD (oSl 1) (oTv (eC (.int 2)))) (aTv (eC (.int 12)) aNil))))))
    (sSeq (sRet (eC (.bool false)))
    sNil)
    sNil)
    (sSeq (sRet (eAnd (eCall F_are_sent (aTv (eOp2 ixD (oSl 1) (oTv (eC (.int 3)))) (aTv (eOp2 ixD (oSl 1) (oTv (eC (.int 2)))) aNil))) (eCall F_are_seen (aTv (eOp2 ixD (oSl 1) (oTv (eC (.int 4)))) (aTv (eOp2 ixD (oSl 1) (oTv (eC (.int 2)))) aNil)))))
    sNil)))
def F_is_view_by : FnS := ⟨[false, false], runF 2 [false, false] b_is_view_by⟩
theorem c_is_view_by : cSs (cS ["rules", "value"] (co T42 ["rules", "value"] 16) [] (defScope s_is_view_by) 1000000 16) (defBody s_is_view_by) = some b_is_view_by := by kernel_rfl
@[simp] theorem m_is_view_by : F_is_view_by.mask = [false, false] := rfl
theorem u_is_view_by : F_is_view_by.run = runF 2 [false, false] b_is_view_by := rfl
def T43 : Tab := T42.add "is_view_by" F_is_view_by kw_is_view_by
theorem sc_check_view : FnScope ["rules", "value"] ["rules", "value"] (defScope s_check_view) := ⟨rfl, rfl, rfl, by decide +kernel, rfl, by decide +kernel, by decide +kernel⟩
def kw_check_view : Nat → List Str → Option (List Nat) := noKw
def b_check_view : SS :=
    (sSeq (sIf (bNot (bTru (oTv (eCall F_is_view_by (aTv (eVar 0) (aTv (eVar 1) aNil))))))
    (sSeq sBad
    sNil)
    sNil)
    sNil)
def F_check_view : FnS := ⟨[false, false], runF 2 [false, false] b_check_view⟩
theorem c_check_view : cSs (cS ["rules", "value"] (co T43 ["rules", "value"] 16) [] (defScope s_check_view) 1000000 16) (defBody s_check_view) = some b_check_view := by kernel_rfl
@[simp] theorem m_check_view : F_check_view.mask = [false, false] := rfl
theorem u_check_view : F_check_view.run = runF 2 [false, false] b_check_view := rfl
def T44 : Tab := T43.add "check_view" F_check_view kw_check_view
theorem sc_is_late : FnScope ["value"] ["value"] (defScope s_is_late) := ⟨rfl, rfl, rfl, by decide +kernel, rfl, by decide +kernel, by decide +kernel⟩
def kw_is_late : Nat → List Str → Option (List Nat) := noKw
def b_is_late : SS :=
    (sSeq (sRet (eCall F_is_up_to (aTv (eVar 0) (aTv (eC (.int 3)) aNil))))
    sNil)
def F_is_late : FnS := ⟨[false], runF 1 [false] b_is_late⟩
theorem c_is_late : cSs (cS ["value"] (co T44 ["value"] 16) [] (defScope s_is_late) 1000000 16) (defBody s_is_late) = some b_is_late := by kernel_rfl
@[simp] theorem m_is_late : F_is_late.mask = [false] := rfl
theorem u_is_late : F_is_late.run = runF 1 [false] b_is_late := rfl
def T45 : Tab := T44.add "is_late" F_is_late kw_is_late
theorem sc_check_late : FnScope ["value"] ["value"] (defScope s_check_late) := ⟨rfl, rfl, rfl, by decide +kernel, rfl, by decide +kernel, by decide +kernel⟩
def kw_check_late : Nat → List Str → Option (List Nat) := noKw
def b_check_late : SS :=
    (sSeq (sIf (bNot (bTru (oTv (eCall F_is_late (aTv (eVar 0) aNil)))))
    (sSeq sBad
    sNil)
    sNil)
    sNil)
def F_check_late : FnS := ⟨[false], runF 1 [false] b_check_late⟩
theorem c_check_late : cSs (cS ["value"] (co T45 ["value"] 16) [] (defScope s_check_late) 1000000 16) (defBody s_check_late) = some b_check_late := by kernel_rfl
@[simp] theorem m_check_late : F_check_late.mask = [false] := rfl
theorem u_check_late : F_check_late.run = runF 1 [false] b_check_late := rfl
def T46 : Tab := T45.add "check_late" F_check_late kw_check_late
theorem sc_check_known : FnScope ["rules", "late", "view"] ["rules", "late", "view"] (defScope s_check_known) := ⟨rfl, rfl, rfl, by decide +kernel, rfl, by decide +kernel, by decide +kernel⟩
def kw_check_known : Nat → List Str → Option (List Nat) := noKw
def b_check_known : SS :=
    (sSeq (sDrop (eCall F_check_rules (aTv (eVar 0) aNil)))
    (sSeq (sDrop (eCall F_check_late (aTv (eVar 1) aNil)))
    (sSeq (sDrop (eCall F_check_view (aTv (eVar 0) (aTv (eVar 2) aNil))))
    sNil)))
def F_check_known : FnS := ⟨[false, false, false], runF 3 [false, false, false] b_check_known⟩
theorem c_check_known : cSs (cS ["rules", "late", "view"] (co T46 ["rules", "late", "view"] 16) [] (defScope s_check_known) 1000000 16) (defBody s_check_known) = some b_check_known := by kernel_rfl
@[simp] theorem m_check_known : F_check_known.mask = [false, false, false] := rfl
theorem u_check_known : F_check_known.run = runF 3 [false, false, false] b_check_known := rfl
def T47 : Tab := T46.add "check_known" F_check_known kw_check_known
theorem sc_is_truth_views : FnScope ["rules", "late", "view", "value"] ["rules", "late", "view", "value"] (defScope s_is_truth_views) := ⟨rfl, rfl, rfl, by decide +kernel, rfl, by decide +kernel, by decide +kernel⟩
def kw_is_truth_views : Nat → List Str → Option (List Nat) := (fun n ks => if n = 0 ∧ ks = (["value", "late", "view", "rules"] : List Str) then some [3, 1, 2, 0] else none)
def b_is_truth_views : SS :=
    (sSeq (sDrop (eCall F_check_known (aTv (eVar 0) (aTv (eVar 1) (aTv (eVar 2) aNil)))))
    (sSeq (sRet (eCall F_is_truth_by (aTv (eVar 0) (aTv (eVar 2) (aTv (eVar 3) aNil)))))
    sNil))
def F_is_truth_views : FnS := ⟨[false, false, false, false], runF 4 [false, false, false, false] b_is_truth_views⟩
theorem c_is_truth_views : cSs (cS ["rules", "late", "view", "value"] (co T47 ["rules", "late", "view", "value"] 16) [] (defScope s_is_truth_views) 1000000 16) (defBody s_is_truth_views) = some b_is_truth_views := by kernel_rfl
@[simp] theorem m_is_truth_views : F_is_truth_views.mask = [false, false, false, false] := rfl
theorem u_is_truth_views : F_is_truth_views.run = runF 4 [false, false, false, false] b_is_truth_views := rfl
def T48 : Tab := T47.add "is_truth_views" F_is_truth_views kw_is_truth_views
theorem sc_l_take : FnScope ["well", "many", "digit"] ["well", "many"] (defScope s_l_take) := ⟨rfl, rfl, rfl, by decide +kernel, rfl, by decide +kernel, by decide +kernel⟩
def kw_l_take : Nat → List Str → Option (List Nat) := noKw
def b_l_take : SS :=
    (sSeq (sIf (bOp2 gtD (oTv (eOp2 ixD (oSl 0) (oTv (eC (.int 0))))) (oTv (eC (.int 0))))
    (sSeq (sAsg (eB divmodD (osCons (oTv (eOp2 ixD (oSl 0) (oTv (eC (.int 0))))) (osCons (oSl 1) osNil))) (gTn 2 (gCons (gIx 0 (eC (.int 0))) (gCons (gN [0] 2) gNil))))
    (sSeq (sRetV [0] 2)
    sNil))
    sNil)
    (sSeq (sAsg (eOp2 addD (oTv (eOp2 ixD (oSl 0) (oTv (eC (.int 2))))) (oTv (eC (.int 1)))) (gIx 0 (eC (.int 2))))
    (sSeq (sAsg (eOp2 modD (oTv (eB intD (osCons (oTv (eOp2 addD (oTv (eOp2 addD (oTv (eOp2 mulD (oTv (eOp2 ixD (oSl 0) (oTv (eC (.int 1))))) (oTv (eC (.int 39373))))) (oTv (eOp2 mulD (oTv (eOp2 ixD (oSl 0) (oTv (eC (.int 2))))) (oTv (eC (.int 30323))))))) (oTv (eC (.int 11))))) osNil))) (oTv (eC (.int 2147483543)))) (gIx 0 (eC (.int 1))))
    (sSeq (sRet (eOp2 modD (oTv (eB intD (osCons (oTv (eOp2 fdivD (oTv (eOp2 ixD (oSl 0) (oTv (eC (.int 1))))) (oTv (eC (.int 128))))) osNil))) (oSl 1)))
    sNil))))
def F_l_take : FnS := ⟨[true, false], runF 3 [true, false] b_l_take⟩
theorem c_l_take : cSs (cS ["well", "many", "digit"] (co T48 ["well", "many", "digit"] 16) [0] (defScope s_l_take) 1000000 16) (defBody s_l_take) = some b_l_take := by kernel_rfl
@[simp] theorem m_l_take : F_l_take.mask = [true, false] := rfl
theorem u_l_take : F_l_take.run = runF 3 [true, false] b_l_take := rfl
def T49 : Tab := T48.add "_law_take" F_l_take kw_l_take
theorem sc_l_of : FnScope ["well", "things"] ["well", "things"] (defScope s_l_of) := ⟨rfl, rfl, rfl, by decide +kernel, rfl, by decide +kernel, by decide +kernel⟩
def kw_l_of : Nat → List Str → Option (List Nat) := noKw
def b_l_of : SS :=
    (sSeq (sRet (eOp2 ixD (oSl 1) (oTv (eCall F_l_take (aSl 0 (aTv (eB lenD (osCons (oSl 1) osNil)) aNil))))))
    sNil)
def F_l_of : FnS := ⟨[true, false], runF 2 [true, false] b_l_of⟩
theorem c_l_of : cSs (cS ["well", "things"] (co T49 ["well", "things"] 16) [0] (defScope s_l_of) 1000000 16) (defBody s_l_of) = some b_l_of := by kernel_rfl
@[simp] theorem m_l_of : F_l_of.mask = [true, false] := rfl
theorem u_l_of : F_l_of.run = runF 2 [true, false] b_l_of := rfl
def T50 : Tab := T49.add "_law_of" F_l_of kw_l_of
theorem sc_l_rules : FnScope ["well", "most", "term", "answer", "some", "each"] ["well", "most"] (defScope s_l_rules) := ⟨rfl, rfl, rfl, by decide +kernel, rfl, by decide +kernel, by decide +kernel⟩
def kw_l_rules : Nat → List Str → Option (List Nat) := noKw
def q_l_rules_1 : ME :=
    (eCall F_l_of (aSl 0 (aTv (eTup (osCons (oTv (eC (.int 0))) (osCons (oTv (eC (.int 1))) (osCons (oTv (eC (.int 1))) (osCons (oTv (eC (.int 2))) osNil))))) aNil)))
def b_l_rules : SS :=
    (sSeq (sPar [0] [2, 3] (aRv (eOp2 addD (oTv (eC (.int 1))) (oTv (eCall F_l_take (aSl 0 (aTv (eVar 1) aNil))))) (aRv (eOp2 addD (oTv (eC (.int 1))) (oTv (eCall F_l_take (aSl 0 (aTv (eC (.int 2)) aNil))))) aNil)))
    (sSeq (sSet [0] 4 (eLc [5] (iFn rng1 (osCons (oTv (eC (.int 5))) osNil)) (gN [] 5) bYes q_l_rules_1))
    (sSeq (sRet (eTup (osCons (oTv (eVar 2)) (osCons (oTv (eOp2 ixD (oSl 4) (oTv (eC (.int 0))))) (osCons (oTv (eOp2 ixD (oSl 4) (oTv (eC (.int 1))))) (osCons (oTv (eOp2 ixD (oSl 4) (oTv (eC (.int 2))))) (osCons (oTv (eOp2 ixD (oSl 4) (oTv (eC (.int 3))))) (osCons (oTv (eOp2 ixD (oSl 4) (oTv (eC (.int 4))))) (osCons (oTv (eVar 3)) (osCons (oTv (eOp2 eqD (oTv (eCall F_l_take (aSl 0 (aTv (eC (.int 2)) aNil)))) (oTv (eC (.int 0))))) osNil))))))))))
    sNil)))
def F_l_rules : FnS := ⟨[true, false], runF 6 [true, false] b_l_rules⟩
theorem c_l_rules : cSs (cS ["well", "most", "term", "answer", "some", "each"] (co T50 ["well", "most", "term", "answer", "some", "each"] 16) [0] (defScope s_l_rules) 1000000 16) (defBody s_l_rules) = some b_l_rules := by kernel_rfl
@[simp] theorem m_l_rules : F_l_rules.mask = [true, false] := rfl
theorem u_l_rules : F_l_rules.run = runF 6 [true, false] b_l_rules := rfl
def T51 : Tab := T50.add "_law_rules" F_l_rules kw_l_rules
theorem sc_l_top : FnScope ["rules"] ["rules"] (defScope s_l_top) := ⟨rfl, rfl, rfl, by decide +kernel, rfl, by decide +kernel, by decide +kernel⟩
def kw_l_top : Nat → List Str → Option (List Nat) := noKw
def b_l_top : SS :=
    (sSeq (sRet (eIf (bOp2 gtD (oTv (eOp2 ixD (oSl 0) (oTv (eC (.int 5))))) (oTv (eOp2 ixD (oSl 0) (oTv (eC (.int 1)))))) (eOp2 ixD (oSl 0) (oTv (eC (.int 5)))) (eOp2 ixD (oSl 0) (oTv (eC (.int 1))))))
    sNil)
def F_l_top : FnS := ⟨[false], runF 1 [false] b_l_top⟩
theorem c_l_top : cSs (cS ["rules"] (co T51 ["rules"] 16) [] (defScope s_l_top) 1000000 16) (defBody s_l_top) = some b_l_top := by kernel_rfl
@[simp] theorem m_l_top : F_l_top.mask = [false] := rfl
theorem u_l_top : F_l_top.run = runF 1 [false] b_l_top := rfl
def T52 : Tab := T51.add "_law_top" F_l_top kw_l_top
theorem sc_l_life : FnScope ["well", "rules", "way", "house", "stages", "word", "most", "left", "ask", "locked", "age", "pair"] ["well", "rules"] (defScope s_l_life) := ⟨rfl, rfl, rfl, by decide +kernel, rfl, by decide +kernel, by decide +kernel⟩
def kw_l_life : Nat → List Str → Option (List Nat) := noKw
def q_l_life_1 : MB :=
    (bOp2 gtD (oTv (eOp2 ixD (oSl 11) (oTv (eC (.int 1))))) (oTv (eC (.int 0))))
def q_l_life_2 : ME :=
    (eVar 11)
def b_l_life : SS :=
    (sSeq (sPar [0] [2, 3] (aRv (eCall F_l_take (aSl 0 (aTv (eC (.int 8)) aNil))) (aRv (eCall F_l_take (aSl 0 (aTv (eC (.int 4)) aNil))) aNil)))
    (sSeq (sSet [0] 4 (eLc [11] (iSeq (eTup (osCons (oTv (eTup (osCons (oTv (eC (.str "grace"))) (osCons (oTv (eOp2 ixD (oSl 1) (oTv (eC (.int 2))))) osNil)))) (osCons (oTv (eTup (osCons (oTv (eC (.str "hold"))) (osCons (oTv (eOp2 ixD (oSl 1) (oTv (eC (.int 3))))) osNil)))) (osCons (oTv (eTup (osCons (oTv (eC (.str "wait"))) (osCons (oTv (eOp2 ixD (oSl 1) (oTv (eC (.int 4))))) osNil)))) osNil))))) (gN [] 11) q_l_life_1 q_l_life_2))
    (sSeq (sIf (bOr (bOp2 eqD (oSl 2) (oTv (eC (.int 0)))) (bAnd (bOp2 eqD (oSl 2) (oTv (eC (.int 1)))) (bOp2 eqD (oSl 4) (oTv (eLst osNil)))))
    (sSeq (sRet (eTup (osCons (oTv (eC (.str "free"))) osNil)))
    sNil)
    sNil)
    (sSeq (sIf (bOp2 eqD (oSl 2) (oTv (eC (.int 1))))
    (sSeq (sAsg (eCall F_l_of (aSl 0 (aTv (eVar 4) aNil))) (gTn 2 (gCons (gN [0] 5) (gCons (gN [0] 6) gNil))))
    (sSeq (sSet [0] 7 (eOp2 addD (oTv (eC (.int 1))) (oTv (eCall F_l_take (aSl 0 (aTv (eVar 6) aNil))))))
    (sSeq (sRet (eIf (bOp2 eqD (oSl 5) (oTv (eC (.str "wait")))) (eTup (osCons (oTv (eVar 5)) (osCons (oTv (eVar 7)) osNil))) (eTup (osCons (oTv (eVar 5)) (osCons (oTv (eVar 3)) (osCons (oTv (eVar 7)) osNil))))))
    sNil)))
    sNil)
    (sSeq (sSet [0] 8 (eC .none))
    (sSeq (sIf (bOp2 eqD (oTv (eCall F_l_take (aSl 0 (aTv (eC (.int 3)) aNil)))) (oTv (eC (.int 0))))
    (sSeq (sSet [0] 8 (eTup (osCons (oTv (eOp2 modD (oTv (eB intD (osCons (oTv (eOp2 addD (oTv (eOp2 addD (oSl 3) (oTv (eC (.int 1))))) (oTv (eCall F_l_take (aSl 0 (aTv (eC (.int 3)) aNil)))))) osNil))) (oTv (eC (.int 4))))) (osCons (oTv (eOp2 addD (oTv (eC (.int 1))) (oTv (eCall F_l_take (aSl 0 (aTv (eOp2 ixD (oSl 1) (oTv (eC (.int 6)))) aNil)))))) osNil))))
    sNil)
    sNil)
    (sSeq (sSet [0] 9 (eAnd (eOp2 eqD (oTv (eCall F_l_take (aSl 0 (aTv (eC (.int 3)) aNil)))) (oTv (eC (.int 0)))) (eOp2 isD (oSl 8) (oTv (eC .none)))))
    (sSeq (sPar [0] [7, 10] (aRv (eOp2 addD (oTv (eC (.int 1))) (oTv (eCall F_l_take (aSl 0 (aTv (eOp2 mulD (oTv (eC (.int 2))) (oTv (eOp2 ixD (oSl 1) (oTv (eC (.int 0)))))) aNil))))) (aRv (eCall F_l_take (aSl 0 (aTv (eOp2 addD (oTv (eCall F_l_top (aTv (eVar 1) aNil))) (oTv (eC (.int 1)))) aNil))) aNil)))
    (sSeq (sRet (eTup (osCons (oTv (eC (.str "held"))) (osCons (oTv (eVar 3)) (osCons (oTv (eVar 7)) (osCons (oTv (eVar 10)) (osCons (oTv (eVar 9)) (osCons (oTv (eOp2 eqD (oTv (eCall F_l_take (aSl 0 (aTv (eC (.int 2)) aNil)))) (oTv (eC (.int 0))))) (osCons (oTv (eVar 8)) osNil)))))))))
    sNil)))))))))
def F_l_life : FnS := ⟨[true, false], runF 12 [true, false] b_l_life⟩
theorem c_l_life : cSs (cS ["well", "rules", "way", "house", "stages", "word", "most", "left", "ask", "locked", "age", "pair"] (co T52 ["well", "rules", "way", "house", "stages", "word", "most", "left", "ask", "locked", "age", "pair"] 16) [0] (defScope s_l_life) 1000000 16) (defBody s_l_life) = some b_l_life := by kernel_rfl
@[simp] theorem m_l_life : F_l_life.mask = [true, false] := rfl
theorem u_l_life : F_l_life.run = runF 12 [true, false] b_l_life := rfl
def T53 : Tab := T52.add "_law_life" F_l_life kw_l_life
theorem sc_l_fallen : FnScope ["rules", "house", "stage", "word", "left"] ["rules", "house", "stage"] (defScope s_l_fallen) := ⟨rfl, rfl, rfl, by decide +kernel, rfl, by decide +kernel, by decide +kernel⟩
def kw_l_fallen : Nat → List Str → Option (List Nat) := noKw
def q_l_fallen_1 : SS :=
    (sSeq (sIf (bOp2 gtD (oSl 4) (oTv (eC (.int 0))))
    (sSeq (sRet (eIf (bOp2 eqD (oSl 3) (oTv (eC (.str "wait")))) (eTup (osCons (oTv (eVar 3)) (osCons (oTv (eVar 4)) osNil))) (eTup (osCons (oTv (eVar 3)) (osCons (oTv (eVar 1)) (osCons (oTv (eVar 4)) osNil))))))
    sNil)
    sNil)
    sNil)
def b_l_fallen : SS :=
    (sSeq (sFor (iSeq (eSl (oTv (eTup (osCons (oTv (eTup (osCons (oTv (eC (.str "grace"))) (osCons (oTv (eOp2 ixD (oSl 0) (oTv (eC (.int 2))))) osNil)))) (osCons (oTv (eTup (osCons (oTv (eC (.str "hold"))) (osCons (oTv (eOp2 ixD (oSl 0) (oTv (eC (.int 3))))) osNil)))) (osCons (oTv (eTup (osCons (oTv (eC (.str "wait"))) (osCons (oTv (eOp2 ixD (oSl 0) (oTv (eC (.int 4))))) osNil)))) osNil))))) (iSome (eVar 2)) iNo)) (gTn 2 (gCons (gN [] 3) (gCons (gN [] 4) gNil))) q_l_fallen_1)
    (sSeq (sRet (eTup (osCons (oTv (eC (.str "free"))) osNil)))
    sNil))
def F_l_fallen : FnS := ⟨[false, false, false], runF 5 [false, false, false] b_l_fallen⟩
theorem c_l_fallen : cSs (cS ["rules", "house", "stage", "word", "left"] (co T53 ["rules", "house", "stage", "word", "left"] 16) [] (defScope s_l_fallen) 1000000 16) (defBody s_l_fallen) = some b_l_fallen := by kernel_rfl
@[simp] theorem m_l_fallen : F_l_fallen.mask = [false, false, false] := rfl
theorem u_l_fallen : F_l_fallen.run = runF 5 [false, false, false] b_l_fallen := rfl
def T54 : Tab := T53.add "_law_fallen" F_l_fallen kw_l_fallen
theorem sc_l_turn : FnScope ["rules", "life", "last", "word", "house", "left", "age", "locked", "code", "ask"] ["rules", "life"] (defScope s_l_turn) := ⟨rfl, rfl, rfl, by decide +kernel, rfl, by decide +kernel, by decide +kernel⟩
def kw_l_turn : Nat → List Str → Option (List Nat) := noKw
def b_l_turn : SS :=
    (sSeq (sIf (bOp2 eqD (oTv (eOp2 ixD (oSl 1) (oTv (eC (.int 0))))) (oTv (eC (.str "free"))))
    (sSeq (sRetV [] 1)
    sNil)
    sNil)
    (sSeq (sIf (bOp2 neD (oTv (eOp2 ixD (oSl 1) (oTv (eC (.int 0))))) (oTv (eC (.str "held"))))
    (sSeq (sSet [] 2 (eOp2 subD (oTv (eB lenD (osCons (oSl 1) osNil))) (oTv (eC (.int 1)))))
    (sSeq (sIf (bOp2 gtD (oTv (eOp2 ixD (oSl 1) (oSl 2))) (oTv (eC (.int 1))))
    (sSeq (sRet (eOp2 addD (oTv (eSl (oSl 1) iNo (iSome (eVar 2)))) (oTv (eTup (osCons (oTv (eOp2 subD (oTv (eOp2 ixD (oSl 1) (oSl 2))) (oTv (eC (.int 1))))) osNil)))))
    sNil)
    sNil)
    (sSeq (sRet (eIf (bOp2 eqD (oTv (eOp2 ixD (oSl 1) (oTv (eC (.int 0))))) (oTv (eC (.str "wait")))) (eTup (osCons (oTv (eC (.str "free"))) osNil)) (eCall F_l_fallen (aTv (eVar 0) (aTv (eOp2 ixD (oSl 1) (oTv (eC (.int 1)))) (aTv (eIf (bOp2 eqD (oTv (eOp2 ixD (oSl 1) (oTv (eC (.int 0))))) (oTv (eC (.str "grace")))) (eC (.int 1)) (eC (.int 2))) aNil))))))
    sNil)))
    sNil)
    (sSeq (sAsg (eVar 1) (gTn 7 (gCons (gN [] 3) (gCons (gN [] 4) (gCons (gN [] 5) (gCons (gN [] 6) (gCons (gN [] 7) (gCons (gN [] 8) (gCons (gN [] 9) gNil)))))))))
    (sSeq (sSet [] 6 (eIf (bOp2 ltD (oSl 6) (oTv (eCall F_l_top (aTv (eVar 0) aNil)))) (eOp2 addD (oSl 6) (oTv (eC (.int 1)))) (eVar 6)))
    (sSeq (sIf (bAnd (bOp2 isNotD (oSl 9) (oTv (eC .none))) (bOp2 gtD (oTv (eOp2 ixD (oSl 9) (oTv (eC (.int 1))))) (oTv (eC (.int 1)))))
    (sSeq (sSet [] 9 (eTup (osCons (oTv (eOp2 ixD (oSl 9) (oTv (eC (.int 0))))) (osCons (oTv (eOp2 subD (oTv (eOp2 ixD (oSl 9) (oTv (eC (.int 1))))) (oTv (eC (.int 1))))) osNil))))
    sNil)
    (sSeq (sIf (bOp2 isNotD (oSl 9) (oTv (eC .none)))
    (sSeq (sIf (bTru (oTv (eOp2 ixD (oSl 0) (oTv (eC (.int 7))))))
    (sSeq (sAsg (eTup (osCons (oTv (eOp2 ixD (oSl 9) (oTv (eC (.int 0))))) (osCons (oTv (eC (.int 0))) (osCons (oTv (eC (.bool false))) (osCons (oTv (eC (.bool false))) osNil))))) (gTn 4 (gCons (gN [] 4) (gCons (gN [] 6) (gCons (gN [] 7) (gCons (gN [] 8) gNil))))))
    sNil)
    sNil)
    (sSeq (sSet [] 9 (eC .none))
    sNil))
    sNil)
    sNil))
    (sSeq (sRet (eIf (bOp2 gtD (oSl 5) (oTv (eC (.int 1)))) (eTup (osCons (oTv (eC (.str "held"))) (osCons (oTv (eVar 4)) (osCons (oTv (eOp2 subD (oSl 5) (oTv (eC (.int 1))))) (osCons (oTv (eVar 6)) (osCons (oTv (eVar 7)) (osCons (oTv (eVar 8)) (osCons (oTv (eVar 9)) osNil)))))))) (eCall F_l_fallen (aTv (eVar 0) (aTv (eVar 4) (aTv (eC (.int 0)) aNil))))))
    sNil))))))
def F_l_turn : FnS := ⟨[false, false], runF 10 [false, false] b_l_turn⟩
theorem c_l_turn : cSs (cS ["rules", "life", "last", "word", "house", "left", "age", "locked", "code", "ask"] (co T54 ["rules", "life", "last", "word", "house", "left", "age", "locked", "code", "ask"] 16) [] (defScope s_l_turn) 1000000 16) (defBody s_l_turn) = some b_l_turn := by kernel_rfl
@[simp] theorem m_l_turn : F_l_turn.mask = [false, false] := rfl
theorem u_l_turn : F_l_turn.run = runF 10 [false, false] b_l_turn := rfl
def T55 : Tab := T54.add "_law_turn" F_l_turn kw_l_turn
theorem sc_l_held : FnScope ["rules", "life", "house", "deed", "word", "holder", "left", "age", "locked", "code", "ask"] ["rules", "life", "house", "deed"] (defScope s_l_held) := ⟨rfl, rfl, rfl, by decide +kernel, rfl, by decide +kernel, by decide +kernel⟩
def kw_l_held : Nat → List Str → Option (List Nat) := noKw
def b_l_held : SS :=
    (sSeq (sAsg (eVar 1) (gTn 7 (gCons (gN [] 4) (gCons (gN [] 5) (gCons (gN [] 6) (gCons (gN [] 7) (gCons (gN [] 8) (gCons (gN [] 9) (gCons (gN [] 10) gNil)))))))))
    (sSeq (sIf (bOp2 eqD (oSl 3) (oTv (eC (.str "take"))))
    (sSeq (sIf (bOr (bOp2 eqD (oSl 2) (oSl 5)) (bOr (bTru (oSl 8)) (bOr (bNot (bTru (oSl 9))) (bOr (bOp2 isNotD (oSl 10) (oTv (eC .none))) (bOp2 ltD (oSl 7) (oTv (eOp2 ixD (oSl 0) (oTv (eC (.int 5))))))))))
    (sSeq (sRet (eC .none))
    sNil)
    sNil)
    (sSeq (sRet (eOp2 addD (oTv (eSl (oSl 1) iNo (iSome (eC (.int 6))))) (oTv (eTup (osCons (oTv (eTup (osCons (oTv (eVar 2)) (osCons (oTv (eOp2 ixD (oSl 0) (oTv (eC (.int 6))))) osNil)))) osNil)))))
    sNil))
    sNil)
    (sSeq (sIf (bOp2 neD (oSl 2) (oSl 5))
    (sSeq (sRet (eC .none))
    sNil)
    sNil)
    (sSeq (sIf (bOp2 eqD (oSl 3) (oTv (eC (.str "renew"))))
    (sSeq (sRet (eIf (bOp2 leD (oSl 6) (oTv (eOp2 ixD (oSl 0) (oTv (eC (.int 0)))))) (eTup (osCons (oTv (eC (.str "held"))) (osCons (oTv (eVar 2)) (osCons (oTv (eOp2 addD (oSl 6) (oTv (eOp2 ixD (oSl 0) (oTv (eC (.int 0))))))) (osCons (oTv (eVar 7)) (osCons (oTv (eVar 8)) (osCons (oTv (eVar 9)) (osCons (oTv (eVar 10)) osNil)))))))) (eC .none)))
    sNil)
    sNil)
    (sSeq (sIf (bOp2 eqD (oSl 3) (oTv (eC (.str "delete"))))
    (sSeq (sIf (bOr (bTru (oSl 8)) (bOp2 isNotD (oSl 10) (oTv (eC .none))))
    (sSeq (sRet (eC .none))
    sNil)
    sNil)
    (sSeq (sRet (eIf (bOp2 ltD (oSl 7) (oTv (eOp2 ixD (oSl 0) (oTv (eC (.int 1)))))) (eTup (osCons (oTv (eC (.str "free"))) osNil)) (eCall F_l_fallen (aTv (eVar 0) (aTv (eVar 2) (aTv (eC (.int 1)) aNil))))))
    sNil))
    sNil)
    (sSeq (sIf (bOp2 eqD (oSl 3) (oTv (eC (.str "lock"))))
    (sSeq (sRet (eIf (bOp2 isD (oSl 10) (oTv (eC .none))) (eTup (osCons (oTv (eC (.str "held"))) (osCons (oTv (eVar 2)) (osCons (oTv (eVar 6)) (osCons (oTv (eVar 7)) (osCons (oTv (eC (.bool true))) (osCons (oTv (eVar 9)) (osCons (oTv (eVar 10)) osNil)))))))) (eC .none)))
    sNil)
    sNil)
    (sSeq (sIf (bOp2 inD (oSl 3) (oTv (eTup (osCons (oTv (eC (.str "unlock"))) (osCons (oTv (eC (.str "code"))) osNil)))))
    (sSeq (sRet (eTup (osCons (oTv (eC (.str "held"))) (osCons (oTv (eVar 2)) (osCons (oTv (eVar 6)) (osCons (oTv (eVar 7)) (osCons (oTv (eAnd (eVar 8) (eOp2 eqD (oSl 3) (oTv (eC (.str "code")))))) (osCons (oTv (eOr (eVar 9) (eOp2 eqD (oSl 3) (oTv (eC (.str "code")))))) (osCons (oTv (eVar 10)) osNil)))))))))
    sNil)
    sNil)
    (sSeq (sIf (bAnd (bOp2 inD (oSl 3) (oTv (eTup (osCons (oTv (eC (.str "agree"))) (osCons (oTv (eC (.str "refuse"))) osNil))))) (bOp2 isNotD (oSl 10) (oTv (eC .none))))
    (sSeq (sRet (eIf (bOp2 eqD (oSl 3) (oTv (eC (.str "agree")))) (eTup (osCons (oTv (eC (.str "held"))) (osCons (oTv (eOp2 ixD (oSl 10) (oTv (eC (.int 0))))) (osCons (oTv (eVar 6)) (osCons (oTv (eC (.int 0))) (osCons (oTv (eC (.bool false))) (osCons (oTv (eC (.bool false))) (osCons (oTv (eC .none)) osNil)))))))) (eOp2 addD (oTv (eSl (oSl 1) iNo (iSome (eC (.int 6))))) (oTv (eTup (osCons (oTv (eC .none)) osNil))))))
    sNil)
    sNil)
    (sSeq (sRet (eC .none))
    sNil)))))))))
def F_l_held : FnS := ⟨[false, false, false, false], runF 11 [false, false, false, false] b_l_held⟩
theorem c_l_held : cSs (cS ["rules", "life", "house", "deed", "word", "holder", "left", "age", "locked", "code", "ask"] (co T55 ["rules", "life", "house", "deed", "word", "holder", "left", "age", "locked", "code", "ask"] 16) [] (defScope s_l_held) 1000000 16) (defBody s_l_held) = some b_l_held := by kernel_rfl
@[simp] theorem m_l_held : F_l_held.mask = [false, false, false, false] := rfl
theorem u_l_held : F_l_held.run = runF 11 [false, false, false, false] b_l_held := rfl
def T56 : Tab := T55.add "_law_held" F_l_held kw_l_held
theorem sc_l_letter : FnScope ["rules", "life", "house", "deed", "back"] ["rules", "life", "house", "deed"] (defScope s_l_letter) := ⟨rfl, rfl, rfl, by decide +kernel, rfl, by decide +kernel, by decide +kernel⟩
def kw_l_letter : Nat → List Str → Option (List Nat) := noKw
def b_l_letter : SS :=
    (sSeq (sSet [] 4 (eC .none))
    (sSeq (sIf (bAnd (bOp2 eqD (oTv (eOp2 ixD (oSl 1) (oTv (eC (.int 0))))) (oTv (eC (.str "free")))) (bOp2 eqD (oSl 3) (oTv (eC (.str "create")))))
    (sSeq (sSet [] 4 (eTup (osCons (oTv (eC (.str "held"))) (osCons (oTv (eVar 2)) (osCons (oTv (eOp2 ixD (oSl 0) (oTv (eC (.int 0))))) (osCons (oTv (eC (.int 0))) (osCons (oTv (eC (.bool false))) (osCons (oTv (eC (.bool false))) (osCons (oTv (eC .none)) osNil)))))))))
    sNil)
    sNil)
    (sSeq (sIf (bOp2 eqD (oTv (eOp2 ixD (oSl 1) (oTv (eC (.int 0))))) (oTv (eC (.str "held"))))
    (sSeq (sSet [] 4 (eCall F_l_held (aTv (eVar 0) (aTv (eVar 1) (aTv (eVar 2) (aTv (eVar 3) aNil))))))
    sNil)
    sNil)
    (sSeq (sIf (bAnd (bOp2 inD (oTv (eOp2 ixD (oSl 1) (oTv (eC (.int 0))))) (oTv (eTup (osCons (oTv (eC (.str "grace"))) (osCons (oTv (eC (.str "hold"))) osNil))))) (bOp2 eqD (oTv (eOp2 ixD (oSl 1) (oTv (eC (.int 1))))) (oSl 2)))
    (sSeq (sIf (bOp2 eqD (oSl 3) (oTv (eIf (bOp2 eqD (oTv (eOp2 ixD (oSl 1) (oTv (eC (.int 0))))) (oTv (eC (.str "grace")))) (eC (.str "renew")) (eC (.str "redeem")))))
    (sSeq (sSet [] 4 (eTup (osCons (oTv (eC (.str "held"))) (osCons (oTv (eVar 2)) (osCons (oTv (eOp2 ixD (oSl 0) (oTv (eC (.int 0))))) (osCons (oTv (eCall F_l_top (aTv (eVar 0) aNil))) (osCons (oTv (eC (.bool false))) (osCons (oTv (eC (.bool false))) (osCons (oTv (eC .none)) osNil)))))))))
    sNil)
    sNil)
    (sSeq (sIf (bAnd (bOp2 eqD (oTv (eOp2 ixD (oSl 1) (oTv (eC (.int 0))))) (oTv (eC (.str "grace")))) (bOp2 eqD (oSl 3) (oTv (eC (.str "delete")))))
    (sSeq (sSet [] 4 (eCall F_l_fallen (aTv (eVar 0) (aTv (eVar 2) (aTv (eC (.int 1)) aNil)))))
    sNil)
    sNil)
    sNil))
    sNil)
    (sSeq (sRet (eIf (bOp2 isD (oSl 4) (oTv (eC .none))) (eTup (osCons (oTv (eVar 1)) (osCons (oTv (eC (.str "refused"))) osNil))) (eTup (osCons (oTv (eVar 4)) (osCons (oTv (eC (.str "done"))) osNil)))))
    sNil)))))
def F_l_letter : FnS := ⟨[false, false, false, false], runF 5 [false, false, false, false] b_l_letter⟩
theorem c_l_letter : cSs (cS ["rules", "life", "house", "deed", "back"] (co T56 ["rules", "life", "house", "deed", "back"] 16) [] (defScope s_l_letter) 1000000 16) (defBody s_l_letter) = some b_l_letter := by kernel_rfl
@[simp] theorem m_l_letter : F_l_letter.mask = [false, false, false, false] := rfl
theorem u_l_letter : F_l_letter.run = runF 5 [false, false, false, false] b_l_letter := rfl
def T57 : Tab := T56.add "_law_letter" F_l_letter kw_l_letter
theorem sc_l_holder : FnScope ["life"] ["life"] (defScope s_l_holder) := ⟨rfl, rfl, rfl, by decide +kernel, rfl, by decide +kernel, by decide +kernel⟩
def kw_l_holder : Nat → List Str → Option (List Nat) := noKw
def b_l_holder : SS :=
    (sSeq (sRet (eIf (bOp2 inD (oTv (eOp2 ixD (oSl 0) (oTv (eC (.int 0))))) (oTv (eTup (osCons (oTv (eC (.str "held"))) (osCons (oTv (eC (.str "grace"))) (osCons (oTv (eC (.str "hold"))) osNil)))))) (eOp2 ixD (oSl 0) (oTv (eC (.int 1)))) (eC .none)))
    sNil)
def F_l_holder : FnS := ⟨[false], runF 1 [false] b_l_holder⟩
theorem c_l_holder : cSs (cS ["life"] (co T57 ["life"] 16) [] (defScope s_l_holder) 1000000 16) (defBody s_l_holder) = some b_l_holder := by kernel_rfl
@[simp] theorem m_l_holder : F_l_holder.mask = [false] := rfl
theorem u_l_holder : F_l_holder.run = runF 1 [false] b_l_holder := rfl
def T58 : Tab := T57.add "_law_holder" F_l_holder kw_l_holder
theorem sc_l_deed : FnScope ["well", "life", "house"] ["well", "life", "house"] (defScope s_l_deed) := ⟨rfl, rfl, rfl, by decide +kernel, rfl, by decide +kernel, by decide +kernel⟩
def kw_l_deed : Nat → List Str → Option (List Nat) := noKw
def b_l_deed : SS :=
    (sSeq (sIf (bOp2 eqD (oTv (eCall F_l_take (aSl 0 (aTv (eC (.int 5)) aNil)))) (oTv (eC (.int 0))))
    (sSeq (sRet (eCall F_l_of (aSl 0 (aTv (eTup (osCons (oTv (eC (.str "create"))) (osCons (oTv (eC (.str "renew"))) (osCons (oTv (eC (.str "redeem"))) (osCons (oTv (eC (.str "delete"))) (osCons (oTv (eC (.str "lock"))) (osCons (oTv (eC (.str "unlock"))) (osCons (oTv (eC (.str "code"))) (osCons (oTv (eC (.str "take"))) (osCons (oTv (eC (.str "guess"))) (osCons (oTv (eC (.str "agree"))) (osCons (oTv (eC (.str "refuse"))) osNil)))))))))))) aNil))))
    sNil)
    sNil)
    (sSeq (sIf (bOp2 inD (oTv (eOp2 ixD (oSl 1) (oTv (eC (.int 0))))) (oTv (eTup (osCons (oTv (eC (.str "free"))) (osCons (oTv (eC (.str "wait"))) osNil)))))
    (sSeq (sRet (eC (.str "create")))
    sNil)
    sNil)
    (sSeq (sIf (bOp2 neD (oTv (eOp2 ixD (oSl 1) (oTv (eC (.int 1))))) (oSl 2))
    (sSeq (sRet (eC (.str "take")))
    sNil)
    sNil)
    (sSeq (sIf (bOp2 neD (oTv (eOp2 ixD (oSl 1) (oTv (eC (.int 0))))) (oTv (eC (.str "held"))))
    (sSeq (sRet (eIf (bOp2 eqD (oTv (eOp2 ixD (oSl 1) (oTv (eC (.int 0))))) (oTv (eC (.str "grace")))) (eCall F_l_of (aSl 0 (aTv (eTup (osCons (oTv (eC (.str "renew"))) (osCons (oTv (eC (.str "redeem"))) (osCons (oTv (eC (.str "delete"))) osNil)))) aNil))) (eC (.str "redeem"))))
    sNil)
    sNil)
    (sSeq (sRet (eCall F_l_of (aSl 0 (aTv (eIf (bOp2 isD (oTv (eOp2 ixD (oSl 1) (oTv (eC (.int 6))))) (oTv (eC .none))) (eTup (osCons (oTv (eC (.str "renew"))) (osCons (oTv (eC (.str "renew"))) (osCons (oTv (eC (.str "code"))) (osCons (oTv (eC (.str "unlock"))) (osCons (oTv (eC (.str "lock"))) (osCons (oTv (eC (.str "delete"))) osNil))))))) (eTup (osCons (oTv (eC (.str "agree"))) (osCons (oTv (eC (.str "refuse"))) (osCons (oTv (eC (.str "code"))) osNil))))) aNil))))
    sNil)))))
def F_l_deed : FnS := ⟨[true, false, false], runF 3 [true, false, false] b_l_deed⟩
theorem c_l_deed : cSs (cS ["well", "life", "house"] (co T58 ["well", "life", "house"] 16) [0] (defScope s_l_deed) 1000000 16) (defBody s_l_deed) = some b_l_deed := by kernel_rfl
@[simp] theorem m_l_deed : F_l_deed.mask = [true, false, false] := rfl
theorem u_l_deed : F_l_deed.run = runF 3 [true, false, false] b_l_deed := rfl
def T59 : Tab := T58.add "_law_deed" F_l_deed kw_l_deed
theorem sc_l_lead : FnScope ["well", "rules", "first", "days", "house", "most", "life", "truth", "lives", "own", "day", "letters", "each", "sender", "deed", "answer"] ["well", "rules", "first", "days", "house", "most"] (defScope s_l_lead) := ⟨rfl, rfl, rfl, by decide +kernel, rfl, by decide +kernel, by decide +kernel⟩
def kw_l_lead : Nat → List Str → Option (List Nat) := noKw
def q_l_lead_1 : SS :=
    (sSeq (sSet [0] 13 (eCall F_l_of (aSl 0 (aTv (eTup (osCons (oTv (eVar 4)) (osCons (oTv (eVar 4)) (osCons (oTv (eCall F_l_holder (aTv (eVar 6) aNil))) (osCons (oTv (eCall F_l_take (aSl 0 (aTv (eC (.int 4)) aNil)))) osNil))))) aNil))))
    (sSeq (sSet [0] 13 (eIf (bOp2 isD (oSl 13) (oTv (eC .none))) (eVar 4) (eVar 13)))
    (sSeq (sIf (bOr (bOp2 neD (oSl 13) (oSl 4)) (bOp2 ltD (oSl 9) (oSl 5)))
    (sSeq (sSet [0] 9 (eOp2 addD (oSl 9) (oTv (eIf (bOp2 eqD (oSl 13) (oSl 4)) (eC (.int 1)) (eC (.int 0))))))
    (sSeq (sSet [0] 14 (eCall F_l_deed (aSl 0 (aTv (eVar 6) (aTv (eVar 13) aNil)))))
    (sSeq (sAsg (eCall F_l_letter (aTv (eVar 1) (aTv (eVar 6) (aTv (eVar 13) (aTv (eVar 14) aNil))))) (gTn 2 (gCons (gN [0] 6) (gCons (gN [0] 15) gNil))))
    (sSeq (sDrop (eApp 11 (eTup (osCons (oTv (eVar 13)) (osCons (oTv (eVar 14)) (osCons (oTv (eVar 15)) osNil))))))
    sNil))))
    sNil)
    sNil)))
def q_l_lead_2 : SS :=
    (sSeq (sPar [0] [6, 11] (aRv (eCall F_l_turn (aTv (eVar 1) (aTv (eVar 6) aNil))) (aRv (eLst osNil) aNil)))
    (sSeq (sFor (iFn rng1 (osCons (oTv (eCall F_l_of (aSl 0 (aTv (eTup (osCons (oTv (eC (.int 0))) (osCons (oTv (eC (.int 1))) (osCons (oTv (eC (.int 1))) (osCons (oTv (eC (.int 2))) (osCons (oTv (eC (.int 3))) osNil)))))) aNil)))) osNil)) (gN [0] 12) q_l_lead_1)
    (sSeq (sDrop (eApp 7 (eB tupleD (osCons (oSl 11) osNil))))
    (sSeq (sDrop (eApp 8 (eVar 6)))
    sNil))))
def b_l_lead : SS :=
    (sSeq (sPar [0] [6, 7, 8, 9] (aRv (eVar 2) (aRv (eLst osNil) (aRv (eLst (osCons (oTv (eVar 2)) osNil)) (aRv (eC (.int 0)) aNil)))))
    (sSeq (sFor (iFn rng1 (osCons (oTv (eVar 3)) osNil)) (gN [0] 10) q_l_lead_2)
    (sSeq (sRet (eTup (osCons (oTv (eB tupleD (osCons (oSl 7) osNil))) (osCons (oTv (eVar 8)) osNil))))
    sNil)))
def F_l_lead : FnS := ⟨[true, false, false, false, false, false], runF 16 [true, false, false, false, false, false] b_l_lead⟩
theorem c_l_lead : cSs (cS ["well", "rules", "first", "days", "house", "most", "life", "truth", "lives", "own", "day", "letters", "each", "sender", "deed", "answer"] (co T59 ["well", "rules", "first", "days", "house", "most", "life", "truth", "lives", "own", "day", "letters", "each", "sender", "deed", "answer"] 16) [0] (defScope s_l_lead) 1000000 16) (defBody s_l_lead) = some b_l_lead := by kernel_rfl
@[simp] theorem m_l_lead : F_l_lead.mask = [true, false, false, false, false, false] := rfl
theorem u_l_lead : F_l_lead.run = runF 16 [true, false, false, false, false, false] b_l_lead := rfl
def T60 : Tab := T59.add "_law_lead" F_l_lead kw_l_lead
theorem sc_l_odd : FnScope ["well", "some"] ["well"] (defScope s_l_odd) := ⟨rfl, rfl, rfl, by decide +kernel, rfl, by decide +kernel, by decide +kernel⟩
def kw_l_odd : Nat → List Str → Option (List Nat) := noKw
def b_l_odd : SS :=
    (sSeq (sSet [0] 1 (eTup (osCons (oTv (eC .none)) (osCons (oTv (eC (.bool true))) (osCons (oTv (eC (.bool false))) (osCons (oTv (eC (.int 0))) (osCons (oTv (eC (.int 1))) (osCons (oTv (eC (.int 3))) (osCons (oTv (eC (.int 4))) (osCons (oTv (eOp1 negD (oTv (eC (.int 1))))) (osCons (oTv (eC (.str ""))) (osCons (oTv (eC (.str "lock"))) (osCons (oTv (eC (.str "done"))) (osCons (oTv (eC (.str "refused"))) (osCons (oTv (eC (.str "renew"))) (osCons (oTv (eC (.str "asked"))) (osCons (oTv (eTup osNil)) (osCons (oTv (eTup (osCons (oTv (eTup osNil)) osNil))) (osCons (oTv (eLst osNil)) (osCons (oTv (eDic [])) (osCons (oTv (eTup (osCons (oTv (eC (.int 0))) (osCons (oTv (eC (.str "lock"))) osNil)))) osNil)))))))))))))))))))))
    (sSeq (sRet (eCall F_l_of (aSl 0 (aTv (eOp2 addD (oSl 1) (oTv (eTup (osCons (oTv (eTup (osCons (oTv (eC (.int 0))) (osCons (oTv (eC (.str "lock"))) (osCons (oTv (eC (.str "done"))) osNil))))) (osCons (oTv (eTup (osCons (oTv (eTup (osCons (oTv (eC (.int 0))) (osCons (oTv (eC (.str "lock"))) (osCons (oTv (eC (.str "refused"))) osNil))))) osNil))) (osCons (oTv (eTup (osCons (oTv (eC (.int 0))) (osCons (oTv (eC (.str "guess"))) (osCons (oTv (eC (.str "done"))) osNil))))) (osCons (oTv (eTup (osCons (oTv (eC (.int 0))) (osCons (oTv (eC (.str "guess"))) (osCons (oTv (eC (.str "refused"))) osNil))))) osNil))))))) aNil))))
    sNil))
def F_l_odd : FnS := ⟨[true], runF 2 [true] b_l_odd⟩
theorem c_l_odd : cSs (cS ["well", "some"] (co T60 ["well", "some"] 16) [0] (defScope s_l_odd) 1000000 16) (defBody s_l_odd) = some b_l_odd := by kernel_rfl
@[simp] theorem m_l_odd : F_l_odd.mask = [true] := rfl
theorem u_l_odd : F_l_odd.run = runF 2 [true] b_l_odd := rfl
def T61 : Tab := T60.add "_law_odd" F_l_odd kw_l_odd
theorem sc_l_bent : FnScope ["well", "thing", "way", "at"] ["well", "thing"] (defScope s_l_bent) := ⟨rfl, rfl, rfl, by decide +kernel, rfl, by decide +kernel, by decide +kernel⟩
def kw_l_bent : Nat → List Str → Option (List Nat) := noKw
def b_l_bent (me : FnS) : SS :=
    (sSeq (sSet [0] 2 (eCall F_l_take (aSl 0 (aTv (eC (.int 9)) aNil))))
    (sSeq (sIf (bOr (bNot (bTru (oTv (eIsi ["tuple"] (oSl 1))))) (bOr (bOp2 eqD (oSl 1) (oTv (eTup osNil))) (bOp2 eqD (oSl 2) (oTv (eC (.int 0))))))
    (sSeq (sRet (eCall F_l_odd (aSl 0 aNil)))
    sNil)
    sNil)
    (sSeq (sSet [0] 3 (eCall F_l_take (aSl 0 (aTv (eB lenD (osCons (oSl 1) osNil)) aNil))))
    (sSeq (sIf (bOp2 eqD (oSl 2) (oTv (eC (.int 1))))
    (sSeq (sRet (eOp2 addD (oTv (eSl (oSl 1) iNo (iSome (eVar 3)))) (oTv (eSl (oSl 1) (iSome (eOp2 addD (oSl 3) (oTv (eC (.int 1))))) iNo))))
    sNil)
    sNil)
    (sSeq (sIf (bOp2 eqD (oSl 2) (oTv (eC (.int 2))))
    (sSeq (sRet (eOp2 addD (oTv (eOp2 addD (oTv (eSl (oSl 1) iNo (iSome (eVar 3)))) (oTv (eTup (osCons (oTv (eOp2 ixD (oSl 1) (oSl 3))) osNil))))) (oTv (eSl (oSl 1) (iSome (eVar 3)) iNo))))
    sNil)
    sNil)
    (sSeq (sIf (bOp2 eqD (oSl 2) (oTv (eC (.int 3))))
    (sSeq (sRet (eIf (bOp2 eqD (oTv (eCall F_l_take (aSl 0 (aTv (eC (.int 2)) aNil)))) (oTv (eC (.int 0)))) (eOp1 revD (oSl 1)) (eB listD (osCons (oSl 1) osNil))))
    sNil)
    sNil)
    (sSeq (sRet (eOp2 addD (oTv (eOp2 addD (oTv (eSl (oSl 1) iNo (iSome (eVar 3)))) (oTv (eTup (osCons (oTv (eCall me (aSl 0 (aTv (eOp2 ixD (oSl 1) (oSl 3)) aNil)))) osNil))))) (oTv (eSl (oSl 1) (iSome (eOp2 addD (oSl 3) (oTv (eC (.int 1))))) iNo))))
    sNil)))))))
def R_l_bent : Nat → List D → Option (RV × List D)
  | 0 => fun _ => none
  | d + 1 => runF 4 [true, false] (b_l_bent ⟨[true, false], R_l_bent d⟩)
def F_l_bent : FnS := ⟨[true, false], R_l_bent 6⟩
theorem c_l_bent (r : List D → Option (RV × List D)) : cSs (cS ["well", "thing", "way", "at"] (co (T61.add "_law_bent" ⟨[true, false], r⟩ kw_l_bent) ["well", "thing", "way", "at"] 16) [0] (defScope s_l_bent) 1000000 16) (defBody s_l_bent) = some (b_l_bent ⟨[true, false], r⟩) := by kernel_rfl
@[simp] theorem m_l_bent : F_l_bent.mask = [true, false] := rfl
theorem u_l_bent : F_l_bent.run = R_l_bent 6 := rfl
def T62 : Tab := T61.add "_law_bent" F_l_bent kw_l_bent
theorem sc_l_swapped : FnScope ["well", "truth", "days", "day", "at", "house", "deed", "answer", "way", "new"] ["well", "truth"] (defScope s_l_swapped) := ⟨rfl, rfl, rfl, by decide +kernel, rfl, by decide +kernel, by decide +kernel⟩
def kw_l_swapped : Nat → List Str → Option (List Nat) := noKw
def q_l_swapped_1 : MB :=
    (bOp2 neD (oTv (eOp2 ixD (oSl 1) (oSl 3))) (oTv (eTup osNil)))
def q_l_swapped_2 : ME :=
    (eVar 3)
def b_l_swapped : SS :=
    (sSeq (sSet [0] 2 (eLc [3] (iFn rng1 (osCons (oTv (eB lenD (osCons (oSl 1) osNil))) osNil)) (gN [] 3) q_l_swapped_1 q_l_swapped_2))
    (sSeq (sIf (bOp2 eqD (oSl 2) (oTv (eLst osNil)))
    (sSeq (sRet (eOp2 addD (oSl 1) (oTv (eTup (osCons (oTv (eTup osNil)) osNil)))))
    sNil)
    sNil)
    (sSeq (sSet [0] 3 (eCall F_l_of (aSl 0 (aTv (eVar 2) aNil))))
    (sSeq (sSet [0] 4 (eCall F_l_take (aSl 0 (aTv (eB lenD (osCons (oTv (eOp2 ixD (oSl 1) (oSl 3))) osNil)) aNil))))
    (sSeq (sAsg (eOp2 ixD (oTv (eOp2 ixD (oSl 1) (oSl 3))) (oSl 4)) (gTn 3 (gCons (gN [0] 5) (gCons (gN [0] 6) (gCons (gN [0] 7) gNil)))))
    (sSeq (sSet [0] 8 (eCall F_l_take (aSl 0 (aTv (eC (.int 4)) aNil))))
    (sSeq (sIf (bOp2 eqD (oSl 8) (oTv (eC (.int 0))))
    (sSeq (sSet [0] 9 (eTup (osCons (oTv (eOp2 modD (oTv (eB intD (osCons (oTv (eOp2 addD (oSl 5) (oTv (eC (.int 1))))) osNil))) (oTv (eC (.int 4))))) (osCons (oTv (eVar 6)) (osCons (oTv (eVar 7)) osNil)))))
    sNil)
    (sSeq (sIf (bOp2 eqD (oSl 8) (oTv (eC (.int 1))))
    (sSeq (sSet [0] 9 (eTup (osCons (oTv (eVar 5)) (osCons (oTv (eCall F_l_of (aSl 0 (aTv (eTup (osCons (oTv (eC (.str "renew"))) (osCons (oTv (eC (.str "lock"))) (osCons (oTv (eC (.str "unlock"))) (osCons (oTv (eC (.str "code"))) (osCons (oTv (eC (.str "take"))) (osCons (oTv (eC (.str "guess"))) (osCons (oTv (eC (.str "agree"))) (osCons (oTv (eC (.str "refuse"))) (osCons (oTv (eC (.str "delete"))) osNil)))))))))) aNil)))) (osCons (oTv (eVar 7)) osNil)))))
    sNil)
    (sSeq (sIf (bOp2 eqD (oSl 8) (oTv (eC (.int 2))))
    (sSeq (sSet [0] 9 (eTup (osCons (oTv (eVar 5)) (osCons (oTv (eVar 6)) (osCons (oTv (eIf (bOp2 eqD (oSl 7) (oTv (eC (.str "refused")))) (eC (.str "done")) (eC (.str "refused")))) osNil)))))
    sNil)
    (sSeq (sRet (eIf (bOp2 ltD (oTv (eOp2 addD (oSl 3) (oTv (eC (.int 1))))) (oTv (eB lenD (osCons (oSl 1) osNil)))) (eOp2 addD (oTv (eOp2 addD (oTv (eOp2 addD (oTv (eSl (oSl 1) iNo (iSome (eVar 3)))) (oTv (eTup (osCons (oTv (eTup osNil)) osNil))))) (oTv (eSl (oSl 1) (iSome (eVar 3)) (iSome (eOp2 addD (oSl 3) (oTv (eC (.int 1))))))))) (oTv (eSl (oSl 1) (iSome (eOp2 addD (oSl 3) (oTv (eC (.int 2))))) iNo))) (eOp1 revD (oSl 1))))
    sNil))
    sNil))
    sNil))
    (sSeq (sRet (eOp2 addD (oTv (eOp2 addD (oTv (eSl (oSl 1) iNo (iSome (eVar 3)))) (oTv (eTup (osCons (oTv (eOp2 addD (oTv (eOp2 addD (oTv (eSl (oTv (eOp2 ixD (oSl 1) (oSl 3))) iNo (iSome (eVar 4)))) (oTv (eTup (osCons (oTv (eVar 9)) osNil))))) (oTv (eSl (oTv (eOp2 ixD (oSl 1) (oSl 3))) (iSome (eOp2 addD (oSl 4) (oTv (eC (.int 1))))) iNo)))) osNil))))) (oTv (eSl (oSl 1) (iSome (eOp2 addD (oSl 3) (oTv (eC (.int 1))))) iNo))))
    sNil))))))))
def F_l_swapped : FnS := ⟨[true, false], runF 10 [true, false] b_l_swapped⟩
theorem c_l_swapped : cSs (cS ["well", "truth", "days", "day", "at", "house", "deed", "answer", "way", "new"] (co T62 ["well", "truth", "days", "day", "at", "house", "deed", "answer", "way", "new"] 16) [0] (defScope s_l_swapped) 1000000 16) (defBody s_l_swapped) = some b_l_swapped := by kernel_rfl
@[simp] theorem m_l_swapped : F_l_swapped.mask = [true, false] := rfl
theorem u_l_swapped : F_l_swapped.run = runF 10 [true, false] b_l_swapped := rfl
def T63 : Tab := T62.add "_law_swapped" F_l_swapped kw_l_swapped
theorem sc_l_same : FnScope ["told", "due", "at"] ["told", "due"] (defScope s_l_same) := ⟨rfl, rfl, rfl, by decide +kernel, rfl, by decide +kernel, by decide +kernel⟩
def kw_l_same : Nat → List Str → Option (List Nat) := noKw
def q_l_same_1 (me : FnS) : ME :=
    (eCall me (aTv (eOp2 ixD (oSl 0) (oSl 2)) (aTv (eOp2 ixD (oSl 1) (oSl 2)) aNil)))
def b_l_same (me : FnS) : SS :=
    (sSeq (sIf (bOr (bAnd (bTru (oTv (eIsi ["tuple"] (oSl 1)))) (bNot (bTru (oTv (eIsi ["tuple"] (oSl 0)))))) (bAnd (bTru (oTv (eIsi ["list"] (oSl 1)))) (bNot (bTru (oTv (eIsi ["list"] (oSl 0)))))))
    (sSeq (sRet (eC (.bool false)))
    sNil)
    sNil)
    (sSeq (sIf (bTru (oTv (eIsi ["tuple", "list"] (oSl 1))))
    (sSeq (sRet (eAnd (eOp2 eqD (oTv (eB lenD (osCons (oSl 0) osNil))) (oTv (eB lenD (osCons (oSl 1) osNil)))) (eB allD (osCons (oTv (eLc [2] (iFn rng1 (osCons (oTv (eB lenD (osCons (oSl 1) osNil))) osNil)) (gN [] 2) bYes (q_l_same_1 me))) osNil))))
    sNil)
    sNil)
    (sSeq (sIf (bOr (bOp2 isD (oSl 1) (oTv (eC .none))) (bOp2 isD (oSl 0) (oTv (eC .none))))
    (sSeq (sRet (eAnd (eOp2 isD (oSl 1) (oTv (eC .none))) (eOp2 isD (oSl 0) (oTv (eC .none)))))
    sNil)
    sNil)
    (sSeq (sIf (bOr (bTru (oTv (eIsi ["bool"] (oSl 1)))) (bTru (oTv (eIsi ["bool"] (oSl 0)))))
    (sSeq (sRet (eAnd (eIsi ["bool"] (oSl 1)) (eAnd (eIsi ["bool"] (oSl 0)) (eOp2 eqD (oSl 1) (oSl 0)))))
    sNil)
    sNil)
    (sSeq (sIf (bTru (oTv (eIsi ["int"] (oSl 1))))
    (sSeq (sRet (eAnd (eIsi ["int"] (oSl 0)) (eOp2 eqD (oSl 0) (oSl 1))))
    sNil)
    sNil)
    (sSeq (sIf (bTru (oTv (eIsi ["str"] (oSl 1))))
    (sSeq (sRet (eAnd (eIsi ["str"] (oSl 0)) (eOp2 eqD (oSl 0) (oSl 1))))
    sNil)
    sNil)
    (sSeq (sRet (eAnd (eIsi ["dict"] (oSl 1)) (eAnd (eIsi ["dict"] (oSl 0)) (eAnd (eOp2 eqD (oTv (eB lenD (osCons (oSl 0) osNil))) (oTv (eB lenD (osCons (oSl 1) osNil)))) (eOp2 eqD (oSl 0) (oSl 1))))))
    sNil)))))))
def R_l_same : Nat → List D → Option (RV × List D)
  | 0 => fun _ => none
  | d + 1 => runF 3 [false, false] (b_l_same ⟨[false, false], R_l_same d⟩)
def F_l_same : FnS := ⟨[false, false], R_l_same 5⟩
theorem c_l_same (r : List D → Option (RV × List D)) : cSs (cS ["told", "due", "at"] (co (T63.add "_law_same" ⟨[false, false], r⟩ kw_l_same) ["told", "due", "at"] 16) [] (defScope s_l_same) 1000000 16) (defBody s_l_same) = some (b_l_same ⟨[false, false], r⟩) := by kernel_rfl
@[simp] theorem m_l_same : F_l_same.mask = [false, false] := rfl
theorem u_l_same : F_l_same.run = R_l_same 5 := rfl
def T64 : Tab := T63.add "_law_same" F_l_same kw_l_same
theorem sc_l_is_number : FnScope ["value", "low", "high"] ["value", "low", "high"] (defScope s_l_is_number) := ⟨rfl, rfl, rfl, by decide +kernel, rfl, by decide +kernel, by decide +kernel⟩
def kw_l_is_number : Nat → List Str → Option (List Nat) := noKw
def b_l_is_number : SS :=
    (sSeq (sRet (eAnd (eIsi ["int"] (oSl 0)) (eAnd (eNot (eIsi ["bool"] (oSl 0))) (eChain leD leD (oSl 1) (oSl 0) (oSl 2)))))
    sNil)
def F_l_is_number : FnS := ⟨[false, false, false], runF 3 [false, false, false] b_l_is_number⟩
theorem c_l_is_number : cSs (cS ["value", "low", "high"] (co T64 ["value", "low", "high"] 16) [] (defScope s_l_is_number) 1000000 16) (defBody s_l_is_number) = some b_l_is_number := by kernel_rfl
@[simp] theorem m_l_is_number : F_l_is_number.mask = [false, false, false] := rfl
theorem u_l_is_number : F_l_is_number.run = runF 3 [false, false, false] b_l_is_number := rfl
def T65 : Tab := T64.add "_law_is_number" F_l_is_number kw_l_is_number
theorem sc_l_is_deed : FnScope ["value", "words"] ["value"] (defScope s_l_is_deed) := ⟨rfl, rfl, rfl, by decide +kernel, rfl, by decide +kernel, by decide +kernel⟩
def kw_l_is_deed : Nat → List Str → Option (List Nat) := noKw
def b_l_is_deed : SS :=
    (sSeq (sSet [] 1 (eTup (osCons (oTv (eC (.str "create"))) (osCons (oTv (eC (.str "renew"))) (osCons (oTv (eC (.str "redeem"))) (osCons (oTv (eC (.str "delete"))) (osCons (oTv (eC (.str "lock"))) (osCons (oTv (eC (.str "unlock"))) (osCons (oTv (eC (.str "code"))) (osCons (oTv (eC (.str "take"))) (osCons (oTv (eC (.str "guess"))) (osCons (oTv (eC (.str "agree"))) (osCons (oTv (eC (.str "refuse"))) osNil)))))))))))))
    (sSeq (sRet (eAnd (eIsi ["str"] (oSl 0)) (eOp2 inD (oSl 0) (oSl 1))))
    sNil))
def F_l_is_deed : FnS := ⟨[false], runF 2 [false] b_l_is_deed⟩
theorem c_l_is_deed : cSs (cS ["value", "words"] (co T65 ["value", "words"] 16) [] (defScope s_l_is_deed) 1000000 16) (defBody s_l_is_deed) = some b_l_is_deed := by kernel_rfl
@[simp] theorem m_l_is_deed : F_l_is_deed.mask = [false] := rfl
theorem u_l_is_deed : F_l_is_deed.run = runF 2 [false] b_l_is_deed := rfl
def T66 : Tab := T65.add "_law_is_deed" F_l_is_deed kw_l_is_deed
theorem sc_l_is_truth : FnScope ["rules", "view", "value", "life", "letters", "letter", "answer"] ["rules", "view", "value"] (defScope s_l_is_truth) := ⟨rfl, rfl, rfl, by decide +kernel, rfl, by decide +kernel, by decide +kernel⟩
def kw_l_is_truth : Nat → List Str → Option (List Nat) := noKw
def q_l_is_truth_1 : SS :=
    (sSeq (sIf (bOr (bNot (bTru (oTv (eIsi ["tuple"] (oSl 5))))) (bOr (bOp2 neD (oTv (eB lenD (osCons (oSl 5) osNil))) (oTv (eC (.int 3)))) (bNot (bTru (oTv (eCall F_l_is_number (aTv (eOp2 ixD (oSl 5) (oTv (eC (.int 0)))) (aTv (eC (.int 0)) (aTv (eC (.int 3)) aNil)))))))))
    (sSeq (sRet (eC (.bool false)))
    sNil)
    sNil)
    (sSeq (sIf (bOr (bNot (bTru (oTv (eCall F_l_is_deed (aTv (eOp2 ixD (oSl 5) (oTv (eC (.int 1)))) aNil))))) (bNot (bTru (oTv (eIsi ["str"] (oTv (eOp2 ixD (oSl 5) (oTv (eC (.int 2))))))))))
    (sSeq (sRet (eC (.bool false)))
    sNil)
    sNil)
    (sSeq (sAsg (eCall F_l_letter (aTv (eVar 0) (aTv (eVar 3) (aTv (eOp2 ixD (oSl 5) (oTv (eC (.int 0)))) (aTv (eOp2 ixD (oSl 5) (oTv (eC (.int 1)))) aNil))))) (gTn 2 (gCons (gN [] 3) (gCons (gN [] 6) gNil))))
    (sSeq (sIf (bOp2 neD (oTv (eOp2 ixD (oSl 5) (oTv (eC (.int 2))))) (oSl 6))
    (sSeq (sRet (eC (.bool false)))
    sNil)
    sNil)
    sNil))))
def q_l_is_truth_2 : SS :=
    (sSeq (sSet [] 3 (eCall F_l_turn (aTv (eVar 0) (aTv (eVar 3) aNil))))
    (sSeq (sIf (bNot (bTru (oTv (eIsi ["tuple"] (oSl 4)))))
    (sSeq (sRet (eC (.bool false)))
    sNil)
    sNil)
    (sSeq (sFor (iSeq (eVar 4)) (gN [] 5) q_l_is_truth_1)
    sNil)))
def b_l_is_truth : SS :=
    (sSeq (sIf (bOr (bNot (bTru (oTv (eIsi ["tuple"] (oSl 2))))) (bOp2 neD (oTv (eB lenD (osCons (oSl 2) osNil))) (oTv (eOp2 ixD (oSl 1) (oTv (eC (.int 2)))))))
    (sSeq (sRet (eC (.bool false)))
    sNil)
    sNil)
    (sSeq (sSet [] 3 (eOp2 ixD (oSl 1) (oTv (eC (.int 1)))))
    (sSeq (sFor (iSeq (eVar 2)) (gN [] 4) q_l_is_truth_2)
    (sSeq (sRet (eC (.bool true)))
    sNil))))
def F_l_is_truth : FnS := ⟨[false, false, false], runF 7 [false, false, false] b_l_is_truth⟩
theorem c_l_is_truth : cSs (cS ["rules", "view", "value", "life", "letters", "letter", "answer"] (co T66 ["rules", "view", "value", "life", "letters", "letter", "answer"] 16) [] (defScope s_l_is_truth) 1000000 16) (defBody s_l_is_truth) = some b_l_is_truth := by kernel_rfl
@[simp] theorem m_l_is_truth : F_l_is_truth.mask = [false, false, false] := rfl
theorem u_l_is_truth : F_l_is_truth.run = runF 7 [false, false, false] b_l_is_truth := rfl
def T67 : Tab := T66.add "_law_is_truth" F_l_is_truth kw_l_is_truth
theorem sc_l_is_told : FnScope ["well", "rules", "view", "value", "due", "late"] ["well", "rules", "view", "value"] (defScope s_l_is_told) := ⟨rfl, rfl, rfl, by decide +kernel, rfl, by decide +kernel, by decide +kernel⟩
def kw_l_is_told : Nat → List Str → Option (List Nat) := noKw
def b_l_is_told : SS :=
    (sSeq (sPar [0] [4, 5] (aRv (eCall F_l_is_truth (aTv (eVar 1) (aTv (eVar 2) (aTv (eVar 3) aNil)))) (aRv (eCall F_l_take (aSl 0 (aTv (eC (.int 4)) aNil))) aNil)))
    (sSeq (sRet (eCall F_l_same (aTv (eLst (osCons (oTv (eCall F_is_truth_views (aTv (eVar 1) (aTv (eVar 5) (aTv (eVar 2) (aTv (eVar 3) aNil)))))) (osCons (oTv (eCallK F_is_truth_views 0 4 [3, 1, 2, 0] osNil (osCons (oTv (eVar 3)) (osCons (oTv (eVar 5)) (osCons (oTv (eVar 2)) (osCons (oTv (eVar 1)) osNil)))))) osNil))) (aTv (eLst (osCons (oTv (eVar 4)) (osCons (oTv (eVar 4)) osNil))) aNil))))
    sNil))
def F_l_is_told : FnS := ⟨[true, false, false, false], runF 6 [true, false, false, false] b_l_is_told⟩
theorem c_l_is_told : cSs (cS ["well", "rules", "view", "value", "due", "late"] (co T67 ["well", "rules", "view", "value", "due", "late"] 16) [0] (defScope s_l_is_told) 1000000 16) (defBody s_l_is_told) = some b_l_is_told := by kernel_rfl
@[simp] theorem m_l_is_told : F_l_is_told.mask = [true, false, false, false] := rfl
theorem u_l_is_told : F_l_is_told.run = runF 6 [true, false, false, false] b_l_is_told := rfl
def T68 : Tab := T67.add "_law_is_told" F_l_is_told kw_l_is_told
theorem sc_l_right : FnScope ["well", "turn", "rules", "first", "days", "house", "truth", "lives", "view", "each", "long"] ["well"] (defScope s_l_right) := ⟨rfl, rfl, rfl, by decide +kernel, rfl, by decide +kernel, by decide +kernel⟩
def kw_l_right : Nat → List Str → Option (List Nat) := noKw
def q_l_right_1 : SS :=
    (sSeq (sIf (bNot (bTru (oTv (eCall F_l_is_told (aSl 0 (aTv (eVar 2) (aTv (eVar 8) (aTv (eCall F_l_bent (aSl 0 (aTv (eVar 6) aNil))) aNil))))))))
    (sSeq (sRet (eC (.bool false)))
    sNil)
    sNil)
    (sSeq (sIf (bNot (bTru (oTv (eCall F_l_is_told (aSl 0 (aTv (eVar 2) (aTv (eVar 8) (aTv (eCall F_l_swapped (aSl 0 (aTv (eVar 6) aNil))) aNil))))))))
    (sSeq (sRet (eC (.bool false)))
    sNil)
    sNil)
    sNil))
def q_l_right_2 : SS :=
    (sSeq (sSet [0] 2 (eCall F_l_rules (aSl 0 (aTv (eIf (bOp2 eqD (oSl 1) (oTv (eC (.int 0)))) (eC (.int 9)) (eC (.int 2))) aNil))))
    (sSeq (sPar [0] [3, 4, 5] (aRv (eCall F_l_life (aSl 0 (aTv (eVar 2) aNil))) (aRv (eCall F_l_of (aSl 0 (aTv (eTup (osCons (oTv (eC (.int 0))) (osCons (oTv (eC (.int 1))) (osCons (oTv (eC (.int 2))) (osCons (oTv (eC (.int 4))) (osCons (oTv (eC (.int 8))) (osCons (oTv (eC (.int 12))) osNil))))))) aNil))) (aRv (eCall F_l_take (aSl 0 (aTv (eC (.int 4)) aNil))) aNil))))
    (sSeq (sAsg (eCall F_l_lead (aSl 0 (aTv (eVar 2) (aTv (eVar 3) (aTv (eVar 4) (aTv (eVar 5) (aTv (eC (.int 99)) aNil))))))) (gTn 2 (gCons (gN [0] 6) (gCons (gN [0] 7) gNil))))
    (sSeq (sSet [0] 8 (eTup (osCons (oTv (eVar 5)) (osCons (oTv (eVar 3)) (osCons (oTv (eVar 4)) (osCons (oTv (eTup osNil)) (osCons (oTv (eTup osNil)) osNil)))))))
    (sSeq (sIf (bOp2 isNotD (oTv (eCall F_is_truth_views (aTv (eVar 2) (aTv (eC (.int 0)) (aTv (eVar 8) (aTv (eVar 6) aNil)))))) (oTv (eC (.bool true))))
    (sSeq (sRet (eC (.bool false)))
    sNil)
    sNil)
    (sSeq (sFor (iFn rng1 (osCons (oTv (eC (.int 5))) osNil)) (gN [0] 9) q_l_right_1)
    (sSeq (sSet [0] 10 (eIf (bOp2 gtD (oSl 4) (oTv (eC (.int 0)))) (eOp2 addD (oTv (eSl (oSl 6) iNo (iSome (eOp1 negD (oTv (eC (.int 1))))))) (oTv (eTup (osCons (oTv (eOp2 mulD (oTv (eOp2 ixD (oSl 6) (oTv (eOp1 negD (oTv (eC (.int 1))))))) (oTv (eC (.int 9))))) osNil)))) (eVar 6)))
    (sSeq (sIf (bOr (bNot (bTru (oTv (eCall F_l_is_told (aSl 0 (aTv (eVar 2) (aTv (eVar 8) (aTv (eVar 10) aNil)))))))) (bNot (bTru (oTv (eCall F_l_is_told (aSl 0 (aTv (eVar 2) (aTv (eVar 8) (aTv (eCall F_l_odd (aSl 0 aNil)) aNil)))))))))
    (sSeq (sRet (eC (.bool false)))
    sNil)
    sNil)
    sNil))))))))
def b_l_right : SS :=
    (sSeq (sFor (iFn rng1 (osCons (oTv (eC (.int 4))) osNil)) (gN [0] 1) q_l_right_2)
    (sSeq (sRet (eC (.bool true)))
    sNil))
def F_l_right : FnS := ⟨[true], runF 11 [true] b_l_right⟩
theorem c_l_right : cSs (cS ["well", "turn", "rules", "first", "days", "house", "truth", "lives", "view", "each", "long"] (co T68 ["well", "turn", "rules", "first", "days", "house", "truth", "lives", "view", "each", "long"] 16) [0] (defScope s_l_right) 1000000 16) (defBody s_l_right) = some b_l_right := by kernel_rfl
@[simp] theorem m_l_right : F_l_right.mask = [true] := rfl
theorem u_l_right : F_l_right.run = runF 11 [true] b_l_right := rfl
def T69 : Tab := T68.add "_law_right" F_l_right kw_l_right
theorem sc_law : FnScope ["script", "lap"] ["script"] (defScope s_law) := ⟨rfl, rfl, rfl, by decide +kernel, rfl, by decide +kernel, by decide +kernel⟩
def kw_law : Nat → List Str → Option (List Nat) := noKw
def q_law_1 : ME :=
    (eCall F_l_right (aOw (eCall F_l_well (aTv (eVar 0) (aTv (eVar 1) aNil))) aNil))
def b_law : SS :=
    (sSeq (sRet (eB allD (osCons (oTv (eLc [1] (iFn rng1 (osCons (oTv (eB maxD (osCons (oTv (eC (.int 2))) (osCons (oTv (eB minD (osCons (oTv (eB lenD (osCons (oSl 0) osNil))) (osCons (oTv (eC (.int 4))) osNil)))) osNil)))) osNil)) (gN [] 1) bYes q_law_1)) osNil)))
    sNil)
def F_law : FnS := ⟨[false], runF 2 [false] b_law⟩
theorem c_law : cSs (cS ["script", "lap"] (co T69 ["script", "lap"] 16) [] (defScope s_law) 1000000 16) (defBody s_law) = some b_law := by kernel_rfl
@[simp] theorem m_law : F_law.mask = [false] := rfl
theorem u_law : F_law.run = runF 2 [false] b_law := rfl
def T70 : Tab := T69.add "law" F_law kw_law
theorem facts {P : Program} {w : World} {K : PySem.W.Frag} {h : Heap} {mg : Str → Option Value} {f : Addr} (X : K.In h) (G : h.Ns mainGlobals mg) (hfa : mg ("law" : Str) = some (.ref f)) (c : He.SaysD fcs dl K) (cc : exC cst K = true) :
    ∃ fd : FuncData, (∀ (s : Shared) (v : Value), BindsTo s fd ⟨[v], []⟩ [("script", v)]) ∧ ∀ base : Heap, K.In base → base.Ns mainGlobals mg → FnOk P w K mg base CX0 79 f fd ["script"] (spF K F_law) := by
  have hb : ∀ x ∈ bltNames, mg x = none := by
    intro x hx
    simp only [bltNames, List.mem_cons, List.not_mem_nil, or_false] at hx
    rcases hx with rfl | rfl | rfl | rfl | rfl | rfl | rfl | rfl | rfl | rfl | rfl | rfl | rfl | rfl | rfl | rfl | rfl | rfl | rfl
    · exact He.free_ok X G (c.fact 70 (f := .free "len") rfl)
    · exact He.free_ok X G (c.fact 71 (f := .free "abs") rfl)
    · exact He.free_ok X G (c.fact 72 (f := .free "max") rfl)
    · exact He.free_ok X G (c.fact 73 (f := .free "min") rfl)
    · exact He.free_ok X G (c.fact 74 (f := .free "sum") rfl)
    · exact He.free_ok X G (c.fact 75 (f := .free "all") rfl)
    · exact He.free_ok X G (c.fact 76 (f := .free "any") rfl)
    · exact He.free_ok X G (c.fact 77 (f := .free "divmod") rfl)
    · exact He.free_ok X G (c.fact 78 (f := .free "int") rfl)
    · exact He.free_ok X G (c.fact 79 (f := .free "tuple") rfl)
    · exact He.free_ok X G (c.fact 80 (f := .free "list") rfl)
    · exact He.free_ok X G (c.fact 81 (f := .free "isinstance") rfl)
    · exact He.free_ok X G (c.fact 82 (f := .free "range") rfl)
    · exact He.free_ok X G (c.fact 83 (f := .free "enumerate") rfl)
    · exact He.free_ok X G (c.fact 84 (f := .free "zip") rfl)
    · exact He.free_ok X G (c.fact 85 (f := .free "bool") rfl)
    · exact He.free_ok X G (c.fact 86 (f := .free "str") rfl)
    · exact He.free_ok X G (c.fact 87 (f := .free "dict") rfl)
    · exact He.free_ok X G (c.fact 88 (f := .free "sorted") rfl)
  obtain ⟨fd0, D0⟩ := c.def_ 0 (d := d_l_well) rfl
  have E0 : Fun K "_law_well" "_law_well" s_l_well (He.fAd K ("_law_well", none)) fd0 := fun_of (kws := []) D0
  have m0 := He.glo_ok X G (c.fact 0 (f := .glo "_law_well") rfl)
  have B0 := D0.bindsN (ps := ["script", "lap"]) fun _ _ _ _ _ _ us hl => match us, hl with | [_, _], _ => rfl
  have w0 : ∀ n ks pm, kw_l_well n ks = some pm → KwOk K fd0 ["script", "lap"] ks n pm := by
    intro n ks pm hq
    cases hq
  obtain ⟨fd1, D1⟩ := c.def_ 1 (d := d_is_tuple_up_to) rfl
  have E1 : Fun K "is_tuple_up_to" "is_tuple_up_to" s_is_tuple_up_to (He.fAd K ("is_tuple_up_to", none)) fd1 := fun_of (kws := []) D1
  have m1 := He.glo_ok X G (c.fact 1 (f := .glo "is_tuple_up_to") rfl)
  have B1 := D1.bindsN (ps := ["value", "low", "high"]) fun _ _ _ _ _ _ us hl => match us, hl with | [_, _, _], _ => rfl
  have w1 : ∀ n ks pm, kw_is_tuple_up_to n ks = some pm → KwOk K fd1 ["value", "low", "high"] ks n pm := by
    intro n ks pm hq
    cases hq
  obtain ⟨fd2, D2⟩ := c.def_ 2 (d := d_is_tuple_of) rfl
  have E2 : Fun K "is_tuple_of" "is_tuple_of" s_is_tuple_of (He.fAd K ("is_tuple_of", none)) fd2 := fun_of (kws := []) D2
  have m2 := He.glo_ok X G (c.fact 2 (f := .glo "is_tuple_of") rfl)
  have B2 := D2.bindsN (ps := ["value", "many"]) fun _ _ _ _ _ _ us hl => match us, hl with | [_, _], _ => rfl
  have w2 : ∀ n ks pm, kw_is_tuple_of n ks = some pm → KwOk K fd2 ["value", "many"] ks n pm := by
    intro n ks pm hq
    cases hq
  obtain ⟨fd3, D3⟩ := c.def_ 3 (d := d_is_named) rfl
  have E3 : Fun K "is_named" "is_named" s_is_named (He.fAd K ("is_named", none)) fd3 := fun_of (kws := []) D3
  have m3 := He.glo_ok X G (c.fact 3 (f := .glo "is_named") rfl)
  have B3 := D3.bindsN (ps := ["value", "names"]) fun _ _ _ _ _ _ us hl => match us, hl with | [_, _], _ => rfl
  have w3 : ∀ n ks pm, kw_is_named n ks = some pm → KwOk K fd3 ["value", "names"] ks n pm := by
    intro n ks pm hq
    cases hq
  obtain ⟨fd4, D4⟩ := c.def_ 4 (d := d_is_number) rfl
  have E4 : Fun K "is_number" "is_number" s_is_number (He.fAd K ("is_number", none)) fd4 := fun_of (kws := []) D4
  have m4 := He.glo_ok X G (c.fact 4 (f := .glo "is_number") rfl)
  have B4 := D4.bindsN (ps := ["value"]) fun _ _ _ _ _ _ us hl => match us, hl with | [_], _ => rfl
  have w4 : ∀ n ks pm, kw_is_number n ks = some pm → KwOk K fd4 ["value"] ks n pm := by
    intro n ks pm hq
    cases hq
  obtain ⟨fd5, D5⟩ := c.def_ 5 (d := d_is_up_to) rfl
  have E5 : Fun K "is_up_to" "is_up_to" s_is_up_to (He.fAd K ("is_up_to", none)) fd5 := fun_of (kws := []) D5
  have m5 := He.glo_ok X G (c.fact 5 (f := .glo "is_up_to") rfl)
  have B5 := D5.bindsN (ps := ["value", "most"]) fun _ _ _ _ _ _ us hl => match us, hl with | [_, _], _ => rfl
  have w5 : ∀ n ks pm, kw_is_up_to n ks = some pm → KwOk K fd5 ["value", "most"] ks n pm := by
    intro n ks pm hq
    cases hq
  obtain ⟨fd6, D6⟩ := c.def_ 6 (d := d_is_house) rfl
  have E6 : Fun K "is_house" "is_house" s_is_house (He.fAd K ("is_house", none)) fd6 := fun_of (kws := []) D6
  have m6 := He.glo_ok X G (c.fact 6 (f := .glo "is_house") rfl)
  have B6 := D6.bindsN (ps := ["value"]) fun _ _ _ _ _ _ us hl => match us, hl with | [_], _ => rfl
  have w6 : ∀ n ks pm, kw_is_house n ks = some pm → KwOk K fd6 ["value"] ks n pm := by
    intro n ks pm hq
    cases hq
  obtain ⟨fd7, D7⟩ := c.def_ 7 (d := d_is_came) rfl
  have E7 : Fun K "is_came" "is_came" s_is_came (He.fAd K ("is_came", none)) fd7 := fun_of (kws := []) D7
  have m7 := He.glo_ok X G (c.fact 7 (f := .glo "is_came") rfl)
  have B7 := D7.bindsN (ps := ["value"]) fun _ _ _ _ _ _ us hl => match us, hl with | [_], _ => rfl
  have w7 : ∀ n ks pm, kw_is_came n ks = some pm → KwOk K fd7 ["value"] ks n pm := by
    intro n ks pm hq
    cases hq
  obtain ⟨fd8, D8⟩ := c.def_ 8 (d := d_waiting) rfl
  have E8 : Fun K "waiting" "waiting" s_waiting (He.fAd K ("waiting", none)) fd8 := fun_of (kws := []) D8
  have m8 := He.glo_ok X G (c.fact 8 (f := .glo "waiting") rfl)
  have B8 := D8.bindsN (ps := ["rules"]) fun _ _ _ _ _ _ us hl => match us, hl with | [_], _ => rfl
  have w8 : ∀ n ks pm, kw_waiting n ks = some pm → KwOk K fd8 ["rules"] ks n pm := by
    intro n ks pm hq
    cases hq
  obtain ⟨fd9, D9⟩ := c.def_ 9 (d := d_fallen) rfl
  have E9 : Fun K "fallen" "fallen" s_fallen (He.fAd K ("fallen", none)) fd9 := fun_of (kws := []) D9
  have m9 := He.glo_ok X G (c.fact 9 (f := .glo "fallen") rfl)
  have B9 := D9.bindsN (ps := ["rules", "house"]) fun _ _ _ _ _ _ us hl => match us, hl with | [_, _], _ => rfl
  have w9 : ∀ n ks pm, kw_fallen n ks = some pm → KwOk K fd9 ["rules", "house"] ks n pm := by
    intro n ks pm hq
    cases hq
  obtain ⟨fd10, D10⟩ := c.def_ 10 (d := d_greatest_age) rfl
  have E10 : Fun K "greatest_age" "greatest_age" s_greatest_age (He.fAd K ("greatest_age", none)) fd10 := fun_of (kws := []) D10
  have m10 := He.glo_ok X G (c.fact 10 (f := .glo "greatest_age") rfl)
  have B10 := D10.bindsN (ps := ["rules"]) fun _ _ _ _ _ _ us hl => match us, hl with | [_], _ => rfl
  have w10 : ∀ n ks pm, kw_greatest_age n ks = some pm → KwOk K fd10 ["rules"] ks n pm := by
    intro n ks pm hq
    cases hq
  obtain ⟨fd11, D11⟩ := c.def_ 11 (d := d_lapsed) rfl
  have E11 : Fun K "lapsed" "lapsed" s_lapsed (He.fAd K ("lapsed", none)) fd11 := fun_of (kws := []) D11
  have m11 := He.glo_ok X G (c.fact 11 (f := .glo "lapsed") rfl)
  have B11 := D11.bindsN (ps := ["rules", "house"]) fun _ _ _ _ _ _ us hl => match us, hl with | [_, _], _ => rfl
  have w11 : ∀ n ks pm, kw_lapsed n ks = some pm → KwOk K fd11 ["rules", "house"] ks n pm := by
    intro n ks pm hq
    cases hq
  obtain ⟨fd12, D12⟩ := c.def_ 12 (d := d_moved) rfl
  have E12 : Fun K "moved" "moved" s_moved (He.fAd K ("moved", none)) fd12 := fun_of (kws := []) D12
  have m12 := He.glo_ok X G (c.fact 12 (f := .glo "moved") rfl)
  have B12 := D12.bindsN (ps := ["life", "house"]) fun _ _ _ _ _ _ us hl => match us, hl with | [_, _], _ => rfl
  have w12 : ∀ n ks pm, kw_moved n ks = some pm → KwOk K fd12 ["life", "house"] ks n pm := by
    intro n ks pm hq
    cases hq
  obtain ⟨fd13, D13⟩ := c.def_ 13 (d := d_moves_at_turn) rfl
  have E13 : Fun K "moves_at_turn" "moves_at_turn" s_moves_at_turn (He.fAd K ("moves_at_turn", none)) fd13 := fun_of (kws := []) D13
  have m13 := He.glo_ok X G (c.fact 13 (f := .glo "moves_at_turn") rfl)
  have B13 := D13.bindsN (ps := ["rules", "life"]) fun _ _ _ _ _ _ us hl => match us, hl with | [_, _], _ => rfl
  have w13 : ∀ n ks pm, kw_moves_at_turn n ks = some pm → KwOk K fd13 ["rules", "life"] ks n pm := by
    intro n ks pm hq
    cases hq
  obtain ⟨fd14, D14⟩ := c.def_ 14 (d := d_turned_ask) rfl
  have E14 : Fun K "turned_ask" "turned_ask" s_turned_ask (He.fAd K ("turned_ask", none)) fd14 := fun_of (kws := []) D14
  have m14 := He.glo_ok X G (c.fact 14 (f := .glo "turned_ask") rfl)
  have B14 := D14.bindsN (ps := ["rules", "life"]) fun _ _ _ _ _ _ us hl => match us, hl with | [_, _], _ => rfl
  have w14 : ∀ n ks pm, kw_turned_ask n ks = some pm → KwOk K fd14 ["rules", "life"] ks n pm := by
    intro n ks pm hq
    cases hq
  obtain ⟨fd15, D15⟩ := c.def_ 15 (d := d_turned_held) rfl
  have E15 : Fun K "turned_held" "turned_held" s_turned_held (He.fAd K ("turned_held", none)) fd15 := fun_of (kws := []) D15
  have m15 := He.glo_ok X G (c.fact 15 (f := .glo "turned_held") rfl)
  have B15 := D15.bindsN (ps := ["rules", "life"]) fun _ _ _ _ _ _ us hl => match us, hl with | [_, _], _ => rfl
  have w15 : ∀ n ks pm, kw_turned_held n ks = some pm → KwOk K fd15 ["rules", "life"] ks n pm := by
    intro n ks pm hq
    cases hq
  obtain ⟨fd16, D16⟩ := c.def_ 16 (d := d_turned_by) rfl
  have E16 : Fun K "turned_by" "turned_by" s_turned_by (He.fAd K ("turned_by", none)) fd16 := fun_of (kws := []) D16
  have m16 := He.glo_ok X G (c.fact 16 (f := .glo "turned_by") rfl)
  have B16 := D16.bindsN (ps := ["rules", "life"]) fun _ _ _ _ _ _ us hl => match us, hl with | [_, _], _ => rfl
  have w16 : ∀ n ks pm, kw_turned_by n ks = some pm → KwOk K fd16 ["rules", "life"] ks n pm := by
    intro n ks pm hq
    cases hq
  obtain ⟨fd17, D17⟩ := c.def_ 17 (d := d_holder_of) rfl
  have E17 : Fun K "holder_of" "holder_of" s_holder_of (He.fAd K ("holder_of", none)) fd17 := fun_of (kws := []) D17
  have m17 := He.glo_ok X G (c.fact 17 (f := .glo "holder_of") rfl)
  have B17 := D17.bindsN (ps := ["life"]) fun _ _ _ _ _ _ us hl => match us, hl with | [_], _ => rfl
  have w17 : ∀ n ks pm, kw_holder_of n ks = some pm → KwOk K fd17 ["life"] ks n pm := by
    intro n ks pm hq
    cases hq
  obtain ⟨fd18, D18⟩ := c.def_ 18 (d := d_created) rfl
  have E18 : Fun K "created" "created" s_created (He.fAd K ("created", none)) fd18 := fun_of (kws := []) D18
  have m18 := He.glo_ok X G (c.fact 18 (f := .glo "created") rfl)
  have B18 := D18.bindsN (ps := ["rules", "house"]) fun _ _ _ _ _ _ us hl => match us, hl with | [_, _], _ => rfl
  have w18 : ∀ n ks pm, kw_created n ks = some pm → KwOk K fd18 ["rules", "house"] ks n pm := by
    intro n ks pm hq
    cases hq
  obtain ⟨fd19, D19⟩ := c.def_ 19 (d := d_taken) rfl
  have E19 : Fun K "taken" "taken" s_taken (He.fAd K ("taken", none)) fd19 := fun_of (kws := []) D19
  have m19 := He.glo_ok X G (c.fact 19 (f := .glo "taken") rfl)
  have B19 := D19.bindsN (ps := ["rules", "life", "house"]) fun _ _ _ _ _ _ us hl => match us, hl with | [_, _, _], _ => rfl
  have w19 : ∀ n ks pm, kw_taken n ks = some pm → KwOk K fd19 ["rules", "life", "house"] ks n pm := by
    intro n ks pm hq
    cases hq
  obtain ⟨fd20, D20⟩ := c.def_ 20 (d := d_deleted) rfl
  have E20 : Fun K "deleted" "deleted" s_deleted (He.fAd K ("deleted", none)) fd20 := fun_of (kws := []) D20
  have m20 := He.glo_ok X G (c.fact 20 (f := .glo "deleted") rfl)
  have B20 := D20.bindsN (ps := ["rules", "life"]) fun _ _ _ _ _ _ us hl => match us, hl with | [_, _], _ => rfl
  have w20 : ∀ n ks pm, kw_deleted n ks = some pm → KwOk K fd20 ["rules", "life"] ks n pm := by
    intro n ks pm hq
    cases hq
  obtain ⟨fd21, D21⟩ := c.def_ 21 (d := d_renewed) rfl
  have E21 : Fun K "renewed" "renewed" s_renewed (He.fAd K ("renewed", none)) fd21 := fun_of (kws := []) D21
  have m21 := He.glo_ok X G (c.fact 21 (f := .glo "renewed") rfl)
  have B21 := D21.bindsN (ps := ["rules", "life"]) fun _ _ _ _ _ _ us hl => match us, hl with | [_, _], _ => rfl
  have w21 : ∀ n ks pm, kw_renewed n ks = some pm → KwOk K fd21 ["rules", "life"] ks n pm := by
    intro n ks pm hq
    cases hq
  obtain ⟨fd22, D22⟩ := c.def_ 22 (d := d_done_held) rfl
  have E22 : Fun K "done_held" "done_held" s_done_held (He.fAd K ("done_held", none)) fd22 := fun_of (kws := []) D22
  have m22 := He.glo_ok X G (c.fact 22 (f := .glo "done_held") rfl)
  have B22 := D22.bindsN (ps := ["rules", "life", "deed"]) fun _ _ _ _ _ _ us hl => match us, hl with | [_, _, _], _ => rfl
  have w22 : ∀ n ks pm, kw_done_held n ks = some pm → KwOk K fd22 ["rules", "life", "deed"] ks n pm := by
    intro n ks pm hq
    cases hq
  obtain ⟨fd23, D23⟩ := c.def_ 23 (d := d_revived) rfl
  have E23 : Fun K "revived" "revived" s_revived (He.fAd K ("revived", none)) fd23 := fun_of (kws := []) D23
  have m23 := He.glo_ok X G (c.fact 23 (f := .glo "revived") rfl)
  have B23 := D23.bindsN (ps := ["rules", "house"]) fun _ _ _ _ _ _ us hl => match us, hl with | [_, _], _ => rfl
  have w23 : ∀ n ks pm, kw_revived n ks = some pm → KwOk K fd23 ["rules", "house"] ks n pm := by
    intro n ks pm hq
    cases hq
  obtain ⟨fd24, D24⟩ := c.def_ 24 (d := d_done_late) rfl
  have E24 : Fun K "done_late" "done_late" s_done_late (He.fAd K ("done_late", none)) fd24 := fun_of (kws := []) D24
  have m24 := He.glo_ok X G (c.fact 24 (f := .glo "done_late") rfl)
  have B24 := D24.bindsN (ps := ["rules", "life", "deed"]) fun _ _ _ _ _ _ us hl => match us, hl with | [_, _, _], _ => rfl
  have w24 : ∀ n ks pm, kw_done_late n ks = some pm → KwOk K fd24 ["rules", "life", "deed"] ks n pm := by
    intro n ks pm hq
    cases hq
  obtain ⟨fd25, D25⟩ := c.def_ 25 (d := d_done_by) rfl
  have E25 : Fun K "done_by" "done_by" s_done_by (He.fAd K ("done_by", none)) fd25 := fun_of (kws := []) D25
  have m25 := He.glo_ok X G (c.fact 25 (f := .glo "done_by") rfl)
  have B25 := D25.bindsN (ps := ["rules", "life", "house", "deed"]) fun _ _ _ _ _ _ us hl => match us, hl with | [_, _, _, _], _ => rfl
  have w25 : ∀ n ks pm, kw_done_by n ks = some pm → KwOk K fd25 ["rules", "life", "house", "deed"] ks n pm := by
    intro n ks pm hq
    cases hq
  obtain ⟨fd26, D26⟩ := c.def_ 26 (d := d_answered_by) rfl
  have E26 : Fun K "answered_by" "answered_by" s_answered_by (He.fAd K ("answered_by", none)) fd26 := fun_of (kws := []) D26
  have m26 := He.glo_ok X G (c.fact 26 (f := .glo "answered_by") rfl)
  have B26 := D26.bindsN (ps := ["rules", "life", "house", "deed"]) fun _ _ _ _ _ _ us hl => match us, hl with | [_, _, _, _], _ => rfl
  have w26 : ∀ n ks pm, kw_answered_by n ks = some pm → KwOk K fd26 ["rules", "life", "house", "deed"] ks n pm := by
    intro n ks pm hq
    cases hq
  obtain ⟨fd27, D27⟩ := c.def_ 27 (d := d_life_behind_day) rfl
  have E27 : Fun K "life_behind_day" "life_behind_day" s_life_behind_day (He.fAd K ("life_behind_day", none)) fd27 := fun_of (kws := []) D27
  have m27 := He.glo_ok X G (c.fact 27 (f := .glo "life_behind_day") rfl)
  have B27 := D27.bindsN (ps := ["rules", "life", "letters"]) fun _ _ _ _ _ _ us hl => match us, hl with | [_, _, _], _ => rfl
  have w27 : ∀ n ks pm, kw_life_behind_day n ks = some pm → KwOk K fd27 ["rules", "life", "letters"] ks n pm := by
    intro n ks pm hq
    cases hq
  obtain ⟨fd28, D28⟩ := c.def_ 28 (d := d_lives_along) rfl
  have E28 : Fun K "lives_along" "lives_along" s_lives_along (He.fAd K ("lives_along", none)) fd28 := fun_of (kws := []) D28
  have m28 := He.glo_ok X G (c.fact 28 (f := .glo "lives_along") rfl)
  have B28 := D28.bindsN (ps := ["rules", "view", "truth"]) fun _ _ _ _ _ _ us hl => match us, hl with | [_, _, _], _ => rfl
  have w28 : ∀ n ks pm, kw_lives_along n ks = some pm → KwOk K fd28 ["rules", "view", "truth"] ks n pm := by
    intro n ks pm hq
    cases hq
  obtain ⟨fd29, D29⟩ := c.def_ 29 (d := d_is_truth_by) rfl
  have E29 : Fun K "is_truth_by" "is_truth_by" s_is_truth_by (He.fAd K ("is_truth_by", none)) fd29 := fun_of (kws := []) D29
  have m29 := He.glo_ok X G (c.fact 29 (f := .glo "is_truth_by") rfl)
  have B29 := D29.bindsN (ps := ["rules", "view", "value"]) fun _ _ _ _ _ _ us hl => match us, hl with | [_, _, _], _ => rfl
  have w29 : ∀ n ks pm, kw_is_truth_by n ks = some pm → KwOk K fd29 ["rules", "view", "value"] ks n pm := by
    intro n ks pm hq
    cases hq
  obtain ⟨fd30, D30⟩ := c.def_ 30 (d := d_is_between) rfl
  have E30 : Fun K "is_between" "is_between" s_is_between (He.fAd K ("is_between", none)) fd30 := fun_of (kws := []) D30
  have m30 := He.glo_ok X G (c.fact 30 (f := .glo "is_between") rfl)
  have B30 := D30.bindsN (ps := ["value", "low", "high"]) fun _ _ _ _ _ _ us hl => match us, hl with | [_, _, _], _ => rfl
  have w30 : ∀ n ks pm, kw_is_between n ks = some pm → KwOk K fd30 ["value", "low", "high"] ks n pm := by
    intro n ks pm hq
    cases hq
  obtain ⟨fd31, D31⟩ := c.def_ 31 (d := d_is_truth_values) rfl
  have E31 : Fun K "is_truth" "is_truth" s_is_truth_values (He.fAd K ("is_truth_values", none)) fd31 := fun_of (kws := []) D31
  have m31 := He.glo_ok X G (c.fact 31 (f := .glo "is_truth_values") rfl)
  have B31 := D31.bindsN (ps := ["value"]) fun _ _ _ _ _ _ us hl => match us, hl with | [_], _ => rfl
  have w31 : ∀ n ks pm, kw_is_truth_values n ks = some pm → KwOk K fd31 ["value"] ks n pm := by
    intro n ks pm hq
    cases hq
  obtain ⟨fd32, D32⟩ := c.def_ 32 (d := d_is_rules_by) rfl
  have E32 : Fun K "is_rules_by" "is_rules_by" s_is_rules_by (He.fAd K ("is_rules_by", none)) fd32 := fun_of (kws := []) D32
  have m32 := He.glo_ok X G (c.fact 32 (f := .glo "is_rules_by") rfl)
  have B32 := D32.bindsN (ps := ["value"]) fun _ _ _ _ _ _ us hl => match us, hl with | [_], _ => rfl
  have w32 : ∀ n ks pm, kw_is_rules_by n ks = some pm → KwOk K fd32 ["value"] ks n pm := by
    intro n ks pm hq
    cases hq
  obtain ⟨fd33, D33⟩ := c.def_ 33 (d := d_check_rules) rfl
  have E33 : Fun K "check_rules" "check_rules" s_check_rules (He.fAd K ("check_rules", none)) fd33 := fun_of (kws := []) D33
  have m33 := He.glo_ok X G (c.fact 33 (f := .glo "check_rules") rfl)
  have B33 := D33.bindsN (ps := ["value"]) fun _ _ _ _ _ _ us hl => match us, hl with | [_], _ => rfl
  have w33 : ∀ n ks pm, kw_check_rules n ks = some pm → KwOk K fd33 ["value"] ks n pm := by
    intro n ks pm hq
    cases hq
  obtain ⟨fd34, D34⟩ := c.def_ 34 (d := d_is_ask) rfl
  have E34 : Fun K "is_ask" "is_ask" s_is_ask (He.fAd K ("is_ask", none)) fd34 := fun_of (kws := []) D34
  have m34 := He.glo_ok X G (c.fact 34 (f := .glo "is_ask") rfl)
  have B34 := D34.bindsN (ps := ["rules", "value", "house"]) fun _ _ _ _ _ _ us hl => match us, hl with | [_, _, _], _ => rfl
  have w34 : ∀ n ks pm, kw_is_ask n ks = some pm → KwOk K fd34 ["rules", "value", "house"] ks n pm := by
    intro n ks pm hq
    cases hq
  obtain ⟨fd35, D35⟩ := c.def_ 35 (d := d_is_held) rfl
  have E35 : Fun K "is_held" "is_held" s_is_held (He.fAd K ("is_held", none)) fd35 := fun_of (kws := []) D35
  have m35 := He.glo_ok X G (c.fact 35 (f := .glo "is_held") rfl)
  have B35 := D35.bindsN (ps := ["rules", "value"]) fun _ _ _ _ _ _ us hl => match us, hl with | [_, _], _ => rfl
  have w35 : ∀ n ks pm, kw_is_held n ks = some pm → KwOk K fd35 ["rules", "value"] ks n pm := by
    intro n ks pm hq
    cases hq
  obtain ⟨fd36, D36⟩ := c.def_ 36 (d := d_is_life_by) rfl
  have E36 : Fun K "is_life_by" "is_life_by" s_is_life_by (He.fAd K ("is_life_by", none)) fd36 := fun_of (kws := []) D36
  have m36 := He.glo_ok X G (c.fact 36 (f := .glo "is_life_by") rfl)
  have B36 := D36.bindsN (ps := ["rules", "value"]) fun _ _ _ _ _ _ us hl => match us, hl with | [_, _], _ => rfl
  have w36 : ∀ n ks pm, kw_is_life_by n ks = some pm → KwOk K fd36 ["rules", "value"] ks n pm := by
    intro n ks pm hq
    cases hq
  obtain ⟨fd37, D37⟩ := c.def_ 37 (d := d_is_sent) rfl
  have E37 : Fun K "is_sent" "is_sent" s_is_sent (He.fAd K ("is_sent", none)) fd37 := fun_of (kws := []) D37
  have m37 := He.glo_ok X G (c.fact 37 (f := .glo "is_sent") rfl)
  have B37 := D37.bindsN (ps := ["value", "days"]) fun _ _ _ _ _ _ us hl => match us, hl with | [_, _], _ => rfl
  have w37 : ∀ n ks pm, kw_is_sent n ks = some pm → KwOk K fd37 ["value", "days"] ks n pm := by
    intro n ks pm hq
    cases hq
  obtain ⟨fd38, D38⟩ := c.def_ 38 (d := d_are_sent) rfl
  have E38 : Fun K "are_sent" "are_sent" s_are_sent (He.fAd K ("are_sent", none)) fd38 := fun_of (kws := []) D38
  have m38 := He.glo_ok X G (c.fact 38 (f := .glo "are_sent") rfl)
  have B38 := D38.bindsN (ps := ["value", "days"]) fun _ _ _ _ _ _ us hl => match us, hl with | [_, _], _ => rfl
  have w38 : ∀ n ks pm, kw_are_sent n ks = some pm → KwOk K fd38 ["value", "days"] ks n pm := by
    intro n ks pm hq
    cases hq
  obtain ⟨fd39, D39⟩ := c.def_ 39 (d := d_are_rising) rfl
  have E39 : Fun K "are_rising" "are_rising" s_are_rising (He.fAd K ("are_rising", none)) fd39 := fun_of (kws := []) D39
  have m39 := He.glo_ok X G (c.fact 39 (f := .glo "are_rising") rfl)
  have B39 := D39.bindsN (ps := ["values"]) fun _ _ _ _ _ _ us hl => match us, hl with | [_], _ => rfl
  have w39 : ∀ n ks pm, kw_are_rising n ks = some pm → KwOk K fd39 ["values"] ks n pm := by
    intro n ks pm hq
    cases hq
  obtain ⟨fd40, D40⟩ := c.def_ 40 (d := d_is_seen) rfl
  have E40 : Fun K "is_seen" "is_seen" s_is_seen (He.fAd K ("is_seen", none)) fd40 := fun_of (kws := []) D40
  have m40 := He.glo_ok X G (c.fact 40 (f := .glo "is_seen") rfl)
  have B40 := D40.bindsN (ps := ["value", "days"]) fun _ _ _ _ _ _ us hl => match us, hl with | [_, _], _ => rfl
  have w40 : ∀ n ks pm, kw_is_seen n ks = some pm → KwOk K fd40 ["value", "days"] ks n pm := by
    intro n ks pm hq
    cases hq
  obtain ⟨fd41, D41⟩ := c.def_ 41 (d := d_are_seen) rfl
  have E41 : Fun K "are_seen" "are_seen" s_are_seen (He.fAd K ("are_seen", none)) fd41 := fun_of (kws := []) D41
  have m41 := He.glo_ok X G (c.fact 41 (f := .glo "are_seen") rfl)
  have B41 := D41.bindsN (ps := ["value", "days"]) fun _ _ _ _ _ _ us hl => match us, hl with | [_, _], _ => rfl
  have w41 : ∀ n ks pm, kw_are_seen n ks = some pm → KwOk K fd41 ["value", "days"] ks n pm := by
    intro n ks pm hq
    cases hq
  obtain ⟨fd42, D42⟩ := c.def_ 42 (d := d_is_view_by) rfl
  have E42 : Fun K "is_view_by" "is_view_by" s_is_view_by (He.fAd K ("is_view_by", none)) fd42 := fun_of (kws := []) D42
  have m42 := He.glo_ok X G (c.fact 42 (f := .glo "is_view_by") rfl)
  have B42 := D42.bindsN (ps := ["rules", "value"]) fun _ _ _ _ _ _ us hl => match us, hl with | [_, _], _ => rfl
  have w42 : ∀ n ks pm, kw_is_view_by n ks = some pm → KwOk K fd42 ["rules", "value"] ks n pm := by
    intro n ks pm hq
    cases hq
  obtain ⟨fd43, D43⟩ := c.def_ 43 (d := d_check_view) rfl
  have E43 : Fun K "check_view" "check_view" s_check_view (He.fAd K ("check_view", none)) fd43 := fun_of (kws := []) D43
  have m43 := He.glo_ok X G (c.fact 43 (f := .glo "check_view") rfl)
  have B43 := D43.bindsN (ps := ["rules", "value"]) fun _ _ _ _ _ _ us hl => match us, hl with | [_, _], _ => rfl
  have w43 : ∀ n ks pm, kw_check_view n ks = some pm → KwOk K fd43 ["rules", "value"] ks n pm := by
    intro n ks pm hq
    cases hq
  obtain ⟨fd44, D44⟩ := c.def_ 44 (d := d_is_late) rfl
  have E44 : Fun K "is_late" "is_late" s_is_late (He.fAd K ("is_late", none)) fd44 := fun_of (kws := []) D44
  have m44 := He.glo_ok X G (c.fact 44 (f := .glo "is_late") rfl)
  have B44 := D44.bindsN (ps := ["value"]) fun _ _ _ _ _ _ us hl => match us, hl with | [_], _ => rfl
  have w44 : ∀ n ks pm, kw_is_late n ks = some pm → KwOk K fd44 ["value"] ks n pm := by
    intro n ks pm hq
    cases hq
  obtain ⟨fd45, D45⟩ := c.def_ 45 (d := d_check_late) rfl
  have E45 : Fun K "check_late" "check_late" s_check_late (He.fAd K ("check_late", none)) fd45 := fun_of (kws := []) D45
  have m45 := He.glo_ok X G (c.fact 45 (f := .glo "check_late") rfl)
  have B45 := D45.bindsN (ps := ["value"]) fun _ _ _ _ _ _ us hl => match us, hl with | [_], _ => rfl
  have w45 : ∀ n ks pm, kw_check_late n ks = some pm → KwOk K fd45 ["value"] ks n pm := by
    intro n ks pm hq
    cases hq
  obtain ⟨fd46, D46⟩ := c.def_ 46 (d := d_check_known) rfl
  have E46 : Fun K "check_known" "check_known" s_check_known (He.fAd K ("check_known", none)) fd46 := fun_of (kws := []) D46
  have m46 := He.glo_ok X G (c.fact 46 (f := .glo "check_known") rfl)
  have B46 := D46.bindsN (ps := ["rules", "late", "view"]) fun _ _ _ _ _ _ us hl => match us, hl with | [_, _, _], _ => rfl
  have w46 : ∀ n ks pm, kw_check_known n ks = some pm → KwOk K fd46 ["rules", "late", "view"] ks n pm := by
    intro n ks pm hq
    cases hq
  obtain ⟨fd47, D47⟩ := c.def_ 47 (d := d_is_truth_views) rfl
  have E47 : Fun K "is_truth" "is_truth" s_is_truth_views (He.fAd K ("is_truth_views", none)) fd47 := fun_of (kws := []) D47
  have m47 := He.glo_ok X G (c.fact 47 (f := .glo "is_truth_views") rfl)
  have B47 := D47.bindsN (ps := ["rules", "late", "view", "value"]) fun _ _ _ _ _ _ us hl => match us, hl with | [_, _, _, _], _ => rfl
  have w47 : ∀ n ks pm, kw_is_truth_views n ks = some pm → KwOk K fd47 ["rules", "late", "view", "value"] ks n pm := by
    intro n ks pm hq
    unfold kw_is_truth_views at hq
    split at hq
    · rename_i hc
      obtain ⟨rfl, rfl⟩ := hc
      cases hq
      exact KwOk.of E47 fun _ _ _ _ _ _ us ws xs h1 h2 h3 => match us, ws, h1, h2, h3 with | [], [_, _, _, _], _, _, h3 => by cases h3; rfl
    · cases hq
  obtain ⟨fd48, D48⟩ := c.def_ 48 (d := d_l_take) rfl
  have E48 : Fun K "_law_take" "_law_take" s_l_take (He.fAd K ("_law_take", none)) fd48 := fun_of (kws := []) D48
  have m48 := He.glo_ok X G (c.fact 48 (f := .glo "_law_take") rfl)
  have B48 := D48.bindsN (ps := ["well", "many"]) fun _ _ _ _ _ _ us hl => match us, hl with | [_, _], _ => rfl
  have w48 : ∀ n ks pm, kw_l_take n ks = some pm → KwOk K fd48 ["well", "many"] ks n pm := by
    intro n ks pm hq
    cases hq
  obtain ⟨fd49, D49⟩ := c.def_ 49 (d := d_l_of) rfl
  have E49 : Fun K "_law_of" "_law_of" s_l_of (He.fAd K ("_law_of", none)) fd49 := fun_of (kws := []) D49
  have m49 := He.glo_ok X G (c.fact 49 (f := .glo "_law_of") rfl)
  have B49 := D49.bindsN (ps := ["well", "things"]) fun _ _ _ _ _ _ us hl => match us, hl with | [_, _], _ => rfl
  have w49 : ∀ n ks pm, kw_l_of n ks = some pm → KwOk K fd49 ["well", "things"] ks n pm := by
    intro n ks pm hq
    cases hq
  obtain ⟨fd50, D50⟩ := c.def_ 50 (d := d_l_rules) rfl
  have E50 : Fun K "_law_rules" "_law_rules" s_l_rules (He.fAd K ("_law_rules", none)) fd50 := fun_of (kws := []) D50
  have m50 := He.glo_ok X G (c.fact 50 (f := .glo "_law_rules") rfl)
  have B50 := D50.bindsN (ps := ["well", "most"]) fun _ _ _ _ _ _ us hl => match us, hl with | [_, _], _ => rfl
  have w50 : ∀ n ks pm, kw_l_rules n ks = some pm → KwOk K fd50 ["well", "most"] ks n pm := by
    intro n ks pm hq
    cases hq
  obtain ⟨fd51, D51⟩ := c.def_ 51 (d := d_l_top) rfl
  have E51 : Fun K "_law_top" "_law_top" s_l_top (He.fAd K ("_law_top", none)) fd51 := fun_of (kws := []) D51
  have m51 := He.glo_ok X G (c.fact 51 (f := .glo "_law_top") rfl)
  have B51 := D51.bindsN (ps := ["rules"]) fun _ _ _ _ _ _ us hl => match us, hl with | [_], _ => rfl
  have w51 : ∀ n ks pm, kw_l_top n ks = some pm → KwOk K fd51 ["rules"] ks n pm := by
    intro n ks pm hq
    cases hq
  obtain ⟨fd52, D52⟩ := c.def_ 52 (d := d_l_life) rfl
  have E52 : Fun K "_law_life" "_law_life" s_l_life (He.fAd K ("_law_life", none)) fd52 := fun_of (kws := []) D52
  have m52 := He.glo_ok X G (c.fact 52 (f := .glo "_law_life") rfl)
  have B52 := D52.bindsN (ps := ["well", "rules"]) fun _ _ _ _ _ _ us hl => match us, hl with | [_, _], _ => rfl
  have w52 : ∀ n ks pm, kw_l_life n ks = some pm → KwOk K fd52 ["well", "rules"] ks n pm := by
    intro n ks pm hq
    cases hq
  obtain ⟨fd53, D53⟩ := c.def_ 53 (d := d_l_fallen) rfl
  have E53 : Fun K "_law_fallen" "_law_fallen" s_l_fallen (He.fAd K ("_law_fallen", none)) fd53 := fun_of (kws := []) D53
  have m53 := He.glo_ok X G (c.fact 53 (f := .glo "_law_fallen") rfl)
  have B53 := D53.bindsN (ps := ["rules", "house", "stage"]) fun _ _ _ _ _ _ us hl => match us, hl with | [_, _, _], _ => rfl
  have w53 : ∀ n ks pm, kw_l_fallen n ks = some pm → KwOk K fd53 ["rules", "house", "stage"] ks n pm := by
    intro n ks pm hq
    cases hq
  obtain ⟨fd54, D54⟩ := c.def_ 54 (d := d_l_turn) rfl
  have E54 : Fun K "_law_turn" "_law_turn" s_l_turn (He.fAd K ("_law_turn", none)) fd54 := fun_of (kws := []) D54
  have m54 := He.glo_ok X G (c.fact 54 (f := .glo "_law_turn") rfl)
  have B54 := D54.bindsN (ps := ["rules", "life"]) fun _ _ _ _ _ _ us hl => match us, hl with | [_, _], _ => rfl
  have w54 : ∀ n ks pm, kw_l_turn n ks = some pm → KwOk K fd54 ["rules", "life"] ks n pm := by
    intro n ks pm hq
    cases hq
  obtain ⟨fd55, D55⟩ := c.def_ 55 (d := d_l_held) rfl
  have E55 : Fun K "_law_held" "_law_held" s_l_held (He.fAd K ("_law_held", none)) fd55 := fun_of (kws := []) D55
  have m55 := He.glo_ok X G (c.fact 55 (f := .glo "_law_held") rfl)
  have B55 := D55.bindsN (ps := ["rules", "life", "house", "deed"]) fun _ _ _ _ _ _ us hl => match us, hl with | [_, _, _, _], _ => rfl
  have w55 : ∀ n ks pm, kw_l_held n ks = some pm → KwOk K fd55 ["rules", "life", "house", "deed"] ks n pm := by
    intro n ks pm hq
    cases hq
  obtain ⟨fd56, D56⟩ := c.def_ 56 (d := d_l_letter) rfl
  have E56 : Fun K "_law_letter" "_law_letter" s_l_letter (He.fAd K ("_law_letter", none)) fd56 := fun_of (kws := []) D56
  have m56 := He.glo_ok X G (c.fact 56 (f := .glo "_law_letter") rfl)
  have B56 := D56.bindsN (ps := ["rules", "life", "house", "deed"]) fun _ _ _ _ _ _ us hl => match us, hl with | [_, _, _, _], _ => rfl
  have w56 : ∀ n ks pm, kw_l_letter n ks = some pm → KwOk K fd56 ["rules", "life", "house", "deed"] ks n pm := by
    intro n ks pm hq
    cases hq
  obtain ⟨fd57, D57⟩ := c.def_ 57 (d := d_l_holder) rfl
  have E57 : Fun K "_law_holder" "_law_holder" s_l_holder (He.fAd K ("_law_holder", none)) fd57 := fun_of (kws := []) D57
  have m57 := He.glo_ok X G (c.fact 57 (f := .glo "_law_holder") rfl)
  have B57 := D57.bindsN (ps := ["life"]) fun _ _ _ _ _ _ us hl => match us, hl with | [_], _ => rfl
  have w57 : ∀ n ks pm, kw_l_holder n ks = some pm → KwOk K fd57 ["life"] ks n pm := by
    intro n ks pm hq
    cases hq
  obtain ⟨fd58, D58⟩ := c.def_ 58 (d := d_l_deed) rfl
  have E58 : Fun K "_law_deed" "_law_deed" s_l_deed (He.fAd K ("_law_deed", none)) fd58 := fun_of (kws := []) D58
  have m58 := He.glo_ok X G (c.fact 58 (f := .glo "_law_deed") rfl)
  have B58 := D58.bindsN (ps := ["well", "life", "house"]) fun _ _ _ _ _ _ us hl => match us, hl with | [_, _, _], _ => rfl
  have w58 : ∀ n ks pm, kw_l_deed n ks = some pm → KwOk K fd58 ["well", "life", "house"] ks n pm := by
    intro n ks pm hq
    cases hq
  obtain ⟨fd59, D59⟩ := c.def_ 59 (d := d_l_lead) rfl
  have E59 : Fun K "_law_lead" "_law_lead" s_l_lead (He.fAd K ("_law_lead", none)) fd59 := fun_of (kws := []) D59
  have m59 := He.glo_ok X G (c.fact 59 (f := .glo "_law_lead") rfl)
  have B59 := D59.bindsN (ps := ["well", "rules", "first", "days", "house", "most"]) fun _ _ _ _ _ _ us hl => match us, hl with | [_, _, _, _, _, _], _ => rfl
  have w59 : ∀ n ks pm, kw_l_lead n ks = some pm → KwOk K fd59 ["well", "rules", "first", "days", "house", "most"] ks n pm := by
    intro n ks pm hq
    cases hq
  obtain ⟨fd60, D60⟩ := c.def_ 60 (d := d_l_odd) rfl
  have E60 : Fun K "_law_odd" "_law_odd" s_l_odd (He.fAd K ("_law_odd", none)) fd60 := fun_of (kws := []) D60
  have m60 := He.glo_ok X G (c.fact 60 (f := .glo "_law_odd") rfl)
  have B60 := D60.bindsN (ps := ["well"]) fun _ _ _ _ _ _ us hl => match us, hl with | [_], _ => rfl
  have w60 : ∀ n ks pm, kw_l_odd n ks = some pm → KwOk K fd60 ["well"] ks n pm := by
    intro n ks pm hq
    cases hq
  obtain ⟨fd61, D61⟩ := c.def_ 61 (d := d_l_bent) rfl
  have E61 : Fun K "_law_bent" "_law_bent" s_l_bent (He.fAd K ("_law_bent", none)) fd61 := fun_of (kws := []) D61
  have m61 := He.glo_ok X G (c.fact 61 (f := .glo "_law_bent") rfl)
  have B61 := D61.bindsN (ps := ["well", "thing"]) fun _ _ _ _ _ _ us hl => match us, hl with | [_, _], _ => rfl
  have w61 : ∀ n ks pm, kw_l_bent n ks = some pm → KwOk K fd61 ["well", "thing"] ks n pm := by
    intro n ks pm hq
    cases hq
  obtain ⟨fd62, D62⟩ := c.def_ 62 (d := d_l_swapped) rfl
  have E62 : Fun K "_law_swapped" "_law_swapped" s_l_swapped (He.fAd K ("_law_swapped", none)) fd62 := fun_of (kws := []) D62
  have m62 := He.glo_ok X G (c.fact 62 (f := .glo "_law_swapped") rfl)
  have B62 := D62.bindsN (ps := ["well", "truth"]) fun _ _ _ _ _ _ us hl => match us, hl with | [_, _], _ => rfl
  have w62 : ∀ n ks pm, kw_l_swapped n ks = some pm → KwOk K fd62 ["well", "truth"] ks n pm := by
    intro n ks pm hq
    cases hq
  obtain ⟨fd63, D63⟩ := c.def_ 63 (d := d_l_same) rfl
  have E63 : Fun K "_law_same" "_law_same" s_l_same (He.fAd K ("_law_same", none)) fd63 := fun_of (kws := []) D63
  have m63 := He.glo_ok X G (c.fact 63 (f := .glo "_law_same") rfl)
  have B63 := D63.bindsN (ps := ["told", "due"]) fun _ _ _ _ _ _ us hl => match us, hl with | [_, _], _ => rfl
  have w63 : ∀ n ks pm, kw_l_same n ks = some pm → KwOk K fd63 ["told", "due"] ks n pm := by
    intro n ks pm hq
    cases hq
  obtain ⟨fd64, D64⟩ := c.def_ 64 (d := d_l_is_number) rfl
  have E64 : Fun K "_law_is_number" "_law_is_number" s_l_is_number (He.fAd K ("_law_is_number", none)) fd64 := fun_of (kws := []) D64
  have m64 := He.glo_ok X G (c.fact 64 (f := .glo "_law_is_number") rfl)
  have B64 := D64.bindsN (ps := ["value", "low", "high"]) fun _ _ _ _ _ _ us hl => match us, hl with | [_, _, _], _ => rfl
  have w64 : ∀ n ks pm, kw_l_is_number n ks = some pm → KwOk K fd64 ["value", "low", "high"] ks n pm := by
    intro n ks pm hq
    cases hq
  obtain ⟨fd65, D65⟩ := c.def_ 65 (d := d_l_is_deed) rfl
  have E65 : Fun K "_law_is_deed" "_law_is_deed" s_l_is_deed (He.fAd K ("_law_is_deed", none)) fd65 := fun_of (kws := []) D65
  have m65 := He.glo_ok X G (c.fact 65 (f := .glo "_law_is_deed") rfl)
  have B65 := D65.bindsN (ps := ["value"]) fun _ _ _ _ _ _ us hl => match us, hl with | [_], _ => rfl
  have w65 : ∀ n ks pm, kw_l_is_deed n ks = some pm → KwOk K fd65 ["value"] ks n pm := by
    intro n ks pm hq
    cases hq
  obtain ⟨fd66, D66⟩ := c.def_ 66 (d := d_l_is_truth) rfl
  have E66 : Fun K "_law_is_truth" "_law_is_truth" s_l_is_truth (He.fAd K ("_law_is_truth", none)) fd66 := fun_of (kws := []) D66
  have m66 := He.glo_ok X G (c.fact 66 (f := .glo "_law_is_truth") rfl)
  have B66 := D66.bindsN (ps := ["rules", "view", "value"]) fun _ _ _ _ _ _ us hl => match us, hl with | [_, _, _], _ => rfl
  have w66 : ∀ n ks pm, kw_l_is_truth n ks = some pm → KwOk K fd66 ["rules", "view", "value"] ks n pm := by
    intro n ks pm hq
    cases hq
  obtain ⟨fd67, D67⟩ := c.def_ 67 (d := d_l_is_told) rfl
  have E67 : Fun K "_law_is_told" "_law_is_told" s_l_is_told (He.fAd K ("_law_is_told", none)) fd67 := fun_of (kws := []) D67
  have m67 := He.glo_ok X G (c.fact 67 (f := .glo "_law_is_told") rfl)
  have B67 := D67.bindsN (ps := ["well", "rules", "view", "value"]) fun _ _ _ _ _ _ us hl => match us, hl with | [_, _, _, _], _ => rfl
  have w67 : ∀ n ks pm, kw_l_is_told n ks = some pm → KwOk K fd67 ["well", "rules", "view", "value"] ks n pm := by
    intro n ks pm hq
    cases hq
  obtain ⟨fd68, D68⟩ := c.def_ 68 (d := d_l_right) rfl
  have E68 : Fun K "_law_right" "_law_right" s_l_right (He.fAd K ("_law_right", none)) fd68 := fun_of (kws := []) D68
  have m68 := He.glo_ok X G (c.fact 68 (f := .glo "_law_right") rfl)
  have B68 := D68.bindsN (ps := ["well"]) fun _ _ _ _ _ _ us hl => match us, hl with | [_], _ => rfl
  have w68 : ∀ n ks pm, kw_l_right n ks = some pm → KwOk K fd68 ["well"] ks n pm := by
    intro n ks pm hq
    cases hq
  obtain ⟨fd69, D69⟩ := c.def_ 69 (d := d_law) rfl
  have E69 : Fun K "law" "law" s_law (He.fAd K ("law", none)) fd69 := fun_of (kws := []) D69
  have m69 := He.glo_ok X G (c.fact 69 (f := .glo "law") rfl)
  have B69 := D69.bindsN (ps := ["script"]) fun _ _ _ _ _ _ us hl => match us, hl with | [_], _ => rfl
  have w69 : ∀ n ks pm, kw_law n ks = some pm → KwOk K fd69 ["script"] ks n pm := by
    intro n ks pm hq
    cases hq
  have e := hfa.symm.trans m69
  cases e
  refine ⟨fd69, fun s v => D69.bindsA (ps := ["script"]) (fun _ _ _ _ _ _ us hl => match us, hl with | [_], _ => rfl) s [v] rfl, fun base _ _ => ?_⟩
  have t0 : TabOk 0 T0 P w K mg base := by
    exact (((((((((((((((((((((((((TabOk.nil hb).putC X G (exC_at cc 0 (q := ("MOST_HOUSE", (.int 3))))).putC X G (exC_at cc 1 (q := ("DEEDS", C_DEEDS)))).putC X G (exC_at cc 2 (q := ("DONE", (.str "done"))))).putC X G (exC_at cc 3 (q := ("REFUSED", (.str "refused"))))).putC X G (exC_at cc 4 (q := ("FREE", (.str "free"))))).putC X G (exC_at cc 5 (q := ("WAIT", (.str "wait"))))).putC X G (exC_at cc 6 (q := ("HOLD", (.str "hold"))))).putC X G (exC_at cc 7 (q := ("GRACE", (.str "grace"))))).putC X G (exC_at cc 8 (q := ("HELD", (.str "held"))))).putC X G (exC_at cc 9 (q := ("AGREE", (.str "agree"))))).putC X G (exC_at cc 10 (q := ("CODE", (.str "code"))))).putC X G (exC_at cc 11 (q := ("DELETE", (.str "delete"))))).putC X G (exC_at cc 12 (q := ("LOCK", (.str "lock"))))).putC X G (exC_at cc 13 (q := ("REFUSE", (.str "refuse"))))).putC X G (exC_at cc 14 (q := ("RENEW", (.str "renew"))))).putC X G (exC_at cc 15 (q := ("UNLOCK", (.str "unlock"))))).putC X G (exC_at cc 16 (q := ("REDEEM", (.str "redeem"))))).putC X G (exC_at cc 17 (q := ("CREATE", (.str "create"))))).putC X G (exC_at cc 18 (q := ("TAKE", (.str "take"))))).putC X G (exC_at cc 19 (q := ("MOST_DAYS_lifework", (.int 4))))).putC X G (exC_at cc 20 (q := ("MOST_TERM", (.int 9))))).putC X G (exC_at cc 21 (q := ("WORDS", C_WORDS)))).putC X G (exC_at cc 22 (q := ("MOST_SENT", (.int 5))))).putC X G (exC_at cc 23 (q := ("MOST_DAYS_viewchecks", (.int 12))))).putC X G (exC_at cc 24 (q := ("MOST_LATE", (.int 3))))
  have o0 : FnOk P w K mg base CX0 1 _ fd0 ["script", "lap"] (spF K F_l_well) := def_ok t0 E0 sc_l_well rfl (by decide) c_l_well
  have t1 : TabOk 1 T1 P w K mg base := (t0.mono (by decide)).add m0 E0.kp B0 o0 w0
  have o1 : FnOk P w K mg base CX0 2 _ fd1 ["value", "low", "high"] (spF K F_is_tuple_up_to) := def_ok t1 E1 sc_is_tuple_up_to rfl (by decide) c_is_tuple_up_to
  have t2 : TabOk 2 T2 P w K mg base := (t1.mono (by decide)).add m1 E1.kp B1 o1 w1
  have o2 : FnOk P w K mg base CX0 3 _ fd2 ["value", "many"] (spF K F_is_tuple_of) := def_ok t2 E2 sc_is_tuple_of rfl (by decide) c_is_tuple_of
  have t3 : TabOk 3 T3 P w K mg base := (t2.mono (by decide)).add m2 E2.kp B2 o2 w2
  have o3 : FnOk P w K mg base CX0 4 _ fd3 ["value", "names"] (spF K F_is_named) := def_ok t3 E3 sc_is_named rfl (by decide) c_is_named
  have t4 : TabOk 4 T4 P w K mg base := (t3.mono (by decide)).add m3 E3.kp B3 o3 w3
  have o4 : FnOk P w K mg base CX0 5 _ fd4 ["value"] (spF K F_is_number) := def_ok t4 E4 sc_is_number rfl (by decide) c_is_number
  have t5 : TabOk 5 T5 P w K mg base := (t4.mono (by decide)).add m4 E4.kp B4 o4 w4
  have o5 : FnOk P w K mg base CX0 6 _ fd5 ["value", "most"] (spF K F_is_up_to) := def_ok t5 E5 sc_is_up_to rfl (by decide) c_is_up_to
  have t6 : TabOk 6 T6 P w K mg base := (t5.mono (by decide)).add m5 E5.kp B5 o5 w5
  have o6 : FnOk P w K mg base CX0 7 _ fd6 ["value"] (spF K F_is_house) := def_ok t6 E6 sc_is_house rfl (by decide) c_is_house
  have t7 : TabOk 7 T7 P w K mg base := (t6.mono (by decide)).add m6 E6.kp B6 o6 w6
  have o7 : FnOk P w K mg base CX0 8 _ fd7 ["value"] (spF K F_is_came) := def_ok t7 E7 sc_is_came rfl (by decide) c_is_came
  have t8 : TabOk 8 T8 P w K mg base := (t7.mono (by decide)).add m7 E7.kp B7 o7 w7
  have o8 : FnOk P w K mg base CX0 9 _ fd8 ["rules"] (spF K F_waiting) := def_ok t8 E8 sc_waiting rfl (by decide) c_waiting
  have t9 : TabOk 9 T9 P w K mg base := (t8.mono (by decide)).add m8 E8.kp B8 o8 w8
  have o9 : FnOk P w K mg base CX0 10 _ fd9 ["rules", "house"] (spF K F_fallen) := def_ok t9 E9 sc_fallen rfl (by decide) c_fallen
  have t10 : TabOk 10 T10 P w K mg base := (t9.mono (by decide)).add m9 E9.kp B9 o9 w9
  have o10 : FnOk P w K mg base CX0 11 _ fd10 ["rules"] (spF K F_greatest_age) := def_ok t10 E10 sc_greatest_age rfl (by decide) c_greatest_age
  have t11 : TabOk 11 T11 P w K mg base := (t10.mono (by decide)).add m10 E10.kp B10 o10 w10
  have o11 : FnOk P w K mg base CX0 12 _ fd11 ["rules", "house"] (spF K F_lapsed) := def_ok t11 E11 sc_lapsed rfl (by decide) c_lapsed
  have t12 : TabOk 12 T12 P w K mg base := (t11.mono (by decide)).add m11 E11.kp B11 o11 w11
  have o12 : FnOk P w K mg base CX0 13 _ fd12 ["life", "house"] (spF K F_moved) := def_ok t12 E12 sc_moved rfl (by decide) c_moved
  have t13 : TabOk 13 T13 P w K mg base := (t12.mono (by decide)).add m12 E12.kp B12 o12 w12
  have o13 : FnOk P w K mg base CX0 14 _ fd13 ["rules", "life"] (spF K F_moves_at_turn) := def_ok t13 E13 sc_moves_at_turn rfl (by decide) c_moves_at_turn
  have t14 : TabOk 14 T14 P w K mg base := (t13.mono (by decide)).add m13 E13.kp B13 o13 w13
  have o14 : FnOk P w K mg base CX0 15 _ fd14 ["rules", "life"] (spF K F_turned_ask) := def_ok t14 E14 sc_turned_ask rfl (by decide) c_turned_ask
  have t15 : TabOk 15 T15 P w K mg base := (t14.mono (by decide)).add m14 E14.kp B14 o14 w14
  have o15 : FnOk P w K mg base CX0 16 _ fd15 ["rules", "life"] (spF K F_turned_held) := def_ok t15 E15 sc_turned_held rfl (by decide) c_turned_held
  have t16 : TabOk 16 T16 P w K mg base := (t15.mono (by decide)).add m15 E15.kp B15 o15 w15
  have o16 : FnOk P w K mg base CX0 17 _ fd16 ["rules", "life"] (spF K F_turned_by) := def_ok t16 E16 sc_turned_by rfl (by decide) c_turned_by
  have t17 : TabOk 17 T17 P w K mg base := (t16.mono (by decide)).add m16 E16.kp B16 o16 w16
  have o17 : FnOk P w K mg base CX0 18 _ fd17 ["life"] (spF K F_holder_of) := def_ok t17 E17 sc_holder_of rfl (by decide) c_holder_of
  have t18 : TabOk 18 T18 P w K mg base := (t17.mono (by decide)).add m17 E17.kp B17 o17 w17
  have o18 : FnOk P w K mg base CX0 19 _ fd18 ["rules", "house"] (spF K F_created) := def_ok t18 E18 sc_created rfl (by decide) c_created
  have t19 : TabOk 19 T19 P w K mg base := (t18.mono (by decide)).add m18 E18.kp B18 o18 w18
  have o19 : FnOk P w K mg base CX0 20 _ fd19 ["rules", "life", "house"] (spF K F_taken) := def_ok t19 E19 sc_taken rfl (by decide) c_taken
  have t20 : TabOk 20 T20 P w K mg base := (t19.mono (by decide)).add m19 E19.kp B19 o19 w19
  have o20 : FnOk P w K mg base CX0 21 _ fd20 ["rules", "life"] (spF K F_deleted) := def_ok t20 E20 sc_deleted rfl (by decide) c_deleted
  have t21 : TabOk 21 T21 P w K mg base := (t20.mono (by decide)).add m20 E20.kp B20 o20 w20
  have o21 : FnOk P w K mg base CX0 22 _ fd21 ["rules", "life"] (spF K F_renewed) := def_ok t21 E21 sc_renewed rfl (by decide) c_renewed
  have t22 : TabOk 22 T22 P w K mg base := (t21.mono (by decide)).add m21 E21.kp B21 o21 w21
  have o22 : FnOk P w K mg base CX0 23 _ fd22 ["rules", "life", "deed"] (spF K F_done_held) := def_ok t22 E22 sc_done_held rfl (by decide) c_done_held
  have t23 : TabOk 23 T23 P w K mg base := (t22.mono (by decide)).add m22 E22.kp B22 o22 w22
  have o23 : FnOk P w K mg base CX0 24 _ fd23 ["rules", "house"] (spF K F_revived) := def_ok t23 E23 sc_revived rfl (by decide) c_revived
  have t24 : TabOk 24 T24 P w K mg base := (t23.mono (by decide)).add m23 E23.kp B23 o23 w23
  have o24 : FnOk P w K mg base CX0 25 _ fd24 ["rules", "life", "deed"] (spF K F_done_late) := def_ok t24 E24 sc_done_late rfl (by decide) c_done_late
  have t25 : TabOk 25 T25 P w K mg base := (t24.mono (by decide)).add m24 E24.kp B24 o24 w24
  have o25 : FnOk P w K mg base CX0 26 _ fd25 ["rules", "life", "house", "deed"] (spF K F_done_by) := def_ok t25 E25 sc_done_by rfl (by decide) c_done_by
  have t26 : TabOk 26 T26 P w K mg base := (t25.mono (by decide)).add m25 E25.kp B25 o25 w25
  have o26 : FnOk P w K mg base CX0 27 _ fd26 ["rules", "life", "house", "deed"] (spF K F_answered_by) := def_ok t26 E26 sc_answered_by rfl (by decide) c_answered_by
  have t27 : TabOk 27 T27 P w K mg base := (t26.mono (by decide)).add m26 E26.kp B26 o26 w26
  have o27 : FnOk P w K mg base CX0 28 _ fd27 ["rules", "life", "letters"] (spF K F_life_behind_day) := def_ok t27 E27 sc_life_behind_day rfl (by decide) c_life_behind_day
  have t28 : TabOk 28 T28 P w K mg base := (t27.mono (by decide)).add m27 E27.kp B27 o27 w27
  have o28 : FnOk P w K mg base CX0 29 _ fd28 ["rules", "view", "truth"] (spF K F_lives_along) := def_ok t28 E28 sc_lives_along rfl (by decide) c_lives_along
  have t29 : TabOk 29 T29 P w K mg base := (t28.mono (by decide)).add m28 E28.kp B28 o28 w28
  have o29 : FnOk P w K mg base CX0 30 _ fd29 ["rules", "view", "value"] (spF K F_is_truth_by) := def_ok t29 E29 sc_is_truth_by rfl (by decide) c_is_truth_by
  have t30 : TabOk 30 T30 P w K mg base := (t29.mono (by decide)).add m29 E29.kp B29 o29 w29
  have o30 : FnOk P w K mg base CX0 31 _ fd30 ["value", "low", "high"] (spF K F_is_between) := def_ok t30 E30 sc_is_between rfl (by decide) c_is_between
  have t31 : TabOk 31 T31 P w K mg base := (t30.mono (by decide)).add m30 E30.kp B30 o30 w30
  have o31 : FnOk P w K mg base CX0 32 _ fd31 ["value"] (spF K F_is_truth_values) := def_ok t31 E31 sc_is_truth_values rfl (by decide) c_is_truth_values
  have t32 : TabOk 32 T32 P w K mg base := (t31.mono (by decide)).add m31 E31.kp B31 o31 w31
  have o32 : FnOk P w K mg base CX0 33 _ fd32 ["value"] (spF K F_is_rules_by) := def_ok t32 E32 sc_is_rules_by rfl (by decide) c_is_rules_by
  have t33 : TabOk 33 T33 P w K mg base := (t32.mono (by decide)).add m32 E32.kp B32 o32 w32
  have o33 : FnOk P w K mg base CX0 34 _ fd33 ["value"] (spF K F_check_rules) := def_ok t33 E33 sc_check_rules rfl (by decide) c_check_rules
  have t34 : TabOk 34 T34 P w K mg base := (t33.mono (by decide)).add m33 E33.kp B33 o33 w33
  have o34 : FnOk P w K mg base CX0 35 _ fd34 ["rules", "value", "house"] (spF K F_is_ask) := def_ok t34 E34 sc_is_ask rfl (by decide) c_is_ask
  have t35 : TabOk 35 T35 P w K mg base := (t34.mono (by decide)).add m34 E34.kp B34 o34 w34
  have o35 : FnOk P w K mg base CX0 36 _ fd35 ["rules", "value"] (spF K F_is_held) := def_ok t35 E35 sc_is_held rfl (by decide) c_is_held
  have t36 : TabOk 36 T36 P w K mg base := (t35.mono (by decide)).add m35 E35.kp B35 o35 w35
  have o36 : FnOk P w K mg base CX0 37 _ fd36 ["rules", "value"] (spF K F_is_life_by) := def_ok t36 E36 sc_is_life_by rfl (by decide) c_is_life_by
  have t37 : TabOk 37 T37 P w K mg base := (t36.mono (by decide)).add m36 E36.kp B36 o36 w36
  have o37 : FnOk P w K mg base CX0 38 _ fd37 ["value", "days"] (spF K F_is_sent) := def_ok t37 E37 sc_is_sent rfl (by decide) c_is_sent
  have t38 : TabOk 38 T38 P w K mg base := (t37.mono (by decide)).add m37 E37.kp B37 o37 w37
  have o38 : FnOk P w K mg base CX0 39 _ fd38 ["value", "days"] (spF K F_are_sent) := def_ok t38 E38 sc_are_sent rfl (by decide) c_are_sent
  have t39 : TabOk 39 T39 P w K mg base := (t38.mono (by decide)).add m38 E38.kp B38 o38 w38
  have o39 : FnOk P w K mg base CX0 40 _ fd39 ["values"] (spF K F_are_rising) := def_ok t39 E39 sc_are_rising rfl (by decide) c_are_rising
  have t40 : TabOk 40 T40 P w K mg base := (t39.mono (by decide)).add m39 E39.kp B39 o39 w39
  have o40 : FnOk P w K mg base CX0 41 _ fd40 ["value", "days"] (spF K F_is_seen) := def_ok t40 E40 sc_is_seen rfl (by decide) c_is_seen
  have t41 : TabOk 41 T41 P w K mg base := (t40.mono (by decide)).add m40 E40.kp B40 o40 w40
  have o41 : FnOk P w K mg base CX0 42 _ fd41 ["value", "days"] (spF K F_are_seen) := def_ok t41 E41 sc_are_seen rfl (by decide) c_are_seen
  have t42 : TabOk 42 T42 P w K mg base := (t41.mono (by decide)).add m41 E41.kp B41 o41 w41
  have o42 : FnOk P w K mg base CX0 43 _ fd42 ["rules", "value"] (spF K F_is_view_by) := def_ok t42 E42 sc_is_view_by rfl (by decide) c_is_view_by
  have t43 : TabOk 43 T43 P w K mg base := (t42.mono (by decide)).add m42 E42.kp B42 o42 w42
  have o43 : FnOk P w K mg base CX0 44 _ fd43 ["rules", "value"] (spF K F_check_view) := def_ok t43 E43 sc_check_view rfl (by decide) c_check_view
  have t44 : TabOk 44 T44 P w K mg base := (t43.mono (by decide)).add m43 E43.kp B43 o43 w43
  have o44 : FnOk P w K mg base CX0 45 _ fd44 ["value"] (spF K F_is_late) := def_ok t44 E44 sc_is_late rfl (by decide) c_is_late
  have t45 : TabOk 45 T45 P w K mg base := (t44.mono (by decide)).add m44 E44.kp B44 o44 w44
  have o45 : FnOk P w K mg base CX0 46 _ fd45 ["value"] (spF K F_check_late) := def_ok t45 E45 sc_check_late rfl (by decide) c_check_late
  have t46 : TabOk 46 T46 P w K mg base := (t45.mono (by decide)).add m45 E45.kp B45 o45 w45
  have o46 : FnOk P w K mg base CX0 47 _ fd46 ["rules", "late", "view"] (spF K F_check_known) := def_ok t46 E46 sc_check_known rfl (by decide) c_check_known
  have t47 : TabOk 47 T47 P w K mg base := (t46.mono (by decide)).add m46 E46.kp B46 o46 w46
  have o47 : FnOk P w K mg base CX0 48 _ fd47 ["rules", "late", "view", "value"] (spF K F_is_truth_views) := def_ok t47 E47 sc_is_truth_views rfl (by decide) c_is_truth_views
  have t48 : TabOk 48 T48 P w K mg base := (t47.mono (by decide)).add m47 E47.kp B47 o47 w47
  have o48 : FnOk P w K mg base CX0 49 _ fd48 ["well", "many"] (spF K F_l_take) := def_ok t48 E48 sc_l_take rfl (by decide) c_l_take
  have t49 : TabOk 49 T49 P w K mg base := (t48.mono (by decide)).add m48 E48.kp B48 o48 w48
  have o49 : FnOk P w K mg base CX0 50 _ fd49 ["well", "things"] (spF K F_l_of) := def_ok t49 E49 sc_l_of rfl (by decide) c_l_of
  have t50 : TabOk 50 T50 P w K mg base := (t49.mono (by decide)).add m49 E49.kp B49 o49 w49
  have o50 : FnOk P w K mg base CX0 51 _ fd50 ["well", "most"] (spF K F_l_rules) := def_ok t50 E50 sc_l_rules rfl (by decide) c_l_rules
  have t51 : TabOk 51 T51 P w K mg base := (t50.mono (by decide)).add m50 E50.kp B50 o50 w50
  have o51 : FnOk P w K mg base CX0 52 _ fd51 ["rules"] (spF K F_l_top) := def_ok t51 E51 sc_l_top rfl (by decide) c_l_top
  have t52 : TabOk 52 T52 P w K mg base := (t51.mono (by decide)).add m51 E51.kp B51 o51 w51
  have o52 : FnOk P w K mg base CX0 53 _ fd52 ["well", "rules"] (spF K F_l_life) := def_ok t52 E52 sc_l_life rfl (by decide) c_l_life
  have t53 : TabOk 53 T53 P w K mg base := (t52.mono (by decide)).add m52 E52.kp B52 o52 w52
  have o53 : FnOk P w K mg base CX0 54 _ fd53 ["rules", "house", "stage"] (spF K F_l_fallen) := def_ok t53 E53 sc_l_fallen rfl (by decide) c_l_fallen
  have t54 : TabOk 54 T54 P w K mg base := (t53.mono (by decide)).add m53 E53.kp B53 o53 w53
  have o54 : FnOk P w K mg base CX0 55 _ fd54 ["rules", "life"] (spF K F_l_turn) := def_ok t54 E54 sc_l_turn rfl (by decide) c_l_turn
  have t55 : TabOk 55 T55 P w K mg base := (t54.mono (by decide)).add m54 E54.kp B54 o54 w54
  have o55 : FnOk P w K mg base CX0 56 _ fd55 ["rules", "life", "house", "deed"] (spF K F_l_held) := def_ok t55 E55 sc_l_held rfl (by decide) c_l_held
  have t56 : TabOk 56 T56 P w K mg base := (t55.mono (by decide)).add m55 E55.kp B55 o55 w55
  have o56 : FnOk P w K mg base CX0 57 _ fd56 ["rules", "life", "house", "deed"] (spF K F_l_letter) := def_ok t56 E56 sc_l_letter rfl (by decide) c_l_letter
  have t57 : TabOk 57 T57 P w K mg base := (t56.mono (by decide)).add m56 E56.kp B56 o56 w56
  have o57 : FnOk P w K mg base CX0 58 _ fd57 ["life"] (spF K F_l_holder) := def_ok t57 E57 sc_l_holder rfl (by decide) c_l_holder
  have t58 : TabOk 58 T58 P w K mg base := (t57.mono (by decide)).add m57 E57.kp B57 o57 w57
  have o58 : FnOk P w K mg base CX0 59 _ fd58 ["well", "life", "house"] (spF K F_l_deed) := def_ok t58 E58 sc_l_deed rfl (by decide) c_l_deed
  have t59 : TabOk 59 T59 P w K mg base := (t58.mono (by decide)).add m58 E58.kp B58 o58 w58
  have o59 : FnOk P w K mg base CX0 60 _ fd59 ["well", "rules", "first", "days", "house", "most"] (spF K F_l_lead) := def_ok t59 E59 sc_l_lead rfl (by decide) c_l_lead
  have t60 : TabOk 60 T60 P w K mg base := (t59.mono (by decide)).add m59 E59.kp B59 o59 w59
  have o60 : FnOk P w K mg base CX0 61 _ fd60 ["well"] (spF K F_l_odd) := def_ok t60 E60 sc_l_odd rfl (by decide) c_l_odd
  have t61 : TabOk 61 T61 P w K mg base := (t60.mono (by decide)).add m60 E60.kp B60 o60 w60
  have r61 : ∀ d, FnOk P w K mg base CX0 (61 + d) _ fd61 ["well", "thing"] (spF K ⟨[true, false], R_l_bent d⟩) := fun d => by
    induction d with
    | zero => exact fn_none
    | succ d ih => exact def_ok ((t61.mono (Nat.le_add_right _ _)).add m61 E61.kp B61 ih w61) E61 sc_l_bent rfl (by decide) (c_l_bent _)
  have o61 : FnOk P w K mg base CX0 67 _ fd61 ["well", "thing"] (spF K F_l_bent) := r61 6
  have t62 : TabOk 67 T62 P w K mg base := (t61.mono (by decide)).add m61 E61.kp B61 o61 w61
  have o62 : FnOk P w K mg base CX0 68 _ fd62 ["well", "truth"] (spF K F_l_swapped) := def_ok t62 E62 sc_l_swapped rfl (by decide) c_l_swapped
  have t63 : TabOk 68 T63 P w K mg base := (t62.mono (by decide)).add m62 E62.kp B62 o62 w62
  have r63 : ∀ d, FnOk P w K mg base CX0 (68 + d) _ fd63 ["told", "due"] (spF K ⟨[false, false], R_l_same d⟩) := fun d => by
    induction d with
    | zero => exact fn_none
    | succ d ih => exact def_ok ((t63.mono (Nat.le_add_right _ _)).add m63 E63.kp B63 ih w63) E63 sc_l_same rfl (by decide) (c_l_same _)
  have o63 : FnOk P w K mg base CX0 73 _ fd63 ["told", "due"] (spF K F_l_same) := r63 5
  have t64 : TabOk 73 T64 P w K mg base := (t63.mono (by decide)).add m63 E63.kp B63 o63 w63
  have o64 : FnOk P w K mg base CX0 74 _ fd64 ["value", "low", "high"] (spF K F_l_is_number) := def_ok t64 E64 sc_l_is_number rfl (by decide) c_l_is_number
  have t65 : TabOk 74 T65 P w K mg base := (t64.mono (by decide)).add m64 E64.kp B64 o64 w64
  have o65 : FnOk P w K mg base CX0 75 _ fd65 ["value"] (spF K F_l_is_deed) := def_ok t65 E65 sc_l_is_deed rfl (by decide) c_l_is_deed
  have t66 : TabOk 75 T66 P w K mg base := (t65.mono (by decide)).add m65 E65.kp B65 o65 w65
  have o66 : FnOk P w K mg base CX0 76 _ fd66 ["rules", "view", "value"] (spF K F_l_is_truth) := def_ok t66 E66 sc_l_is_truth rfl (by decide) c_l_is_truth
  have t67 : TabOk 76 T67 P w K mg base := (t66.mono (by decide)).add m66 E66.kp B66 o66 w66
  have o67 : FnOk P w K mg base CX0 77 _ fd67 ["well", "rules", "view", "value"] (spF K F_l_is_told) := def_ok t67 E67 sc_l_is_told rfl (by decide) c_l_is_told
  have t68 : TabOk 77 T68 P w K mg base := (t67.mono (by decide)).add m67 E67.kp B67 o67 w67
  have o68 : FnOk P w K mg base CX0 78 _ fd68 ["well"] (spF K F_l_right) := def_ok t68 E68 sc_l_right rfl (by decide) c_l_right
  have t69 : TabOk 78 T69 P w K mg base := (t68.mono (by decide)).add m68 E68.kp B68 o68 w68
  have o69 : FnOk P w K mg base CX0 79 _ fd69 ["script"] (spF K F_law) := def_ok t69 E69 sc_law rfl (by decide) c_law
  exact o69
end K18
namespace K18
open PySem PySem.Spec L2 Z
open PyProof.Rows hiding St

/-! ## rules and lives -/
structure Ru where
  term : Int
  add : Int
  grace : Int
  hold : Int
  wait : Int
  lock : Int
  ask : Int
  silent : Bool
def Ru.d (r : Ru) : D := .tuple [.int r.term, .int r.add, .int r.grace, .int r.hold, .int r.wait, .int r.lock, .int r.ask, .bool r.silent]
structure Ru.Ok (r : Ru) : Prop where
  t1 : 1 ≤ r.term
  t2 : r.term ≤ 9
  a1 : 0 ≤ r.add
  a2 : r.add ≤ 4
  g1 : 0 ≤ r.grace
  g2 : r.grace ≤ 4
  h1 : 0 ≤ r.hold
  h2 : r.hold ≤ 4
  w1 : 0 ≤ r.wait
  w2 : r.wait ≤ 4
  l1 : 0 ≤ r.lock
  l2 : r.lock ≤ 4
  k1 : 1 ≤ r.ask
  k2 : r.ask ≤ 4
def Ru.top (r : Ru) : Int := max r.lock r.add
inductive Li where
  | free
  | wait (n : Int)
  | grace (h n : Int)
  | hold (h n : Int)
  | held (h left age : Int) (l c : Bool) (ask : Option (Int × Int))
def askD : Option (Int × Int) → D
  | none => .none
  | some (h, n) => .tuple [.int h, .int n]
def Li.d : Li → D
  | .free => .tuple [.str "free"]
  | .wait n => .tuple [.str "wait", .int n]
  | .grace h n => .tuple [.str "grace", .int h, .int n]
  | .hold h n => .tuple [.str "hold", .int h, .int n]
  | .held h left age l c ask => .tuple [.str "held", .int h, .int left, .int age, .bool l, .bool c, askD ask]
def House (h : Int) : Prop := 0 ≤ h ∧ h ≤ 3
def askOk (r : Ru) (h : Int) : Option (Int × Int) → Prop
  | none => True
  | some (g, n) => House g ∧ g ≠ h ∧ 1 ≤ n ∧ n ≤ r.ask
def Li.Ok (r : Ru) : Li → Prop
  | .free => True
  | .wait n => 1 ≤ n ∧ n ≤ r.wait
  | .grace h n => House h ∧ 1 ≤ n ∧ n ≤ r.grace
  | .hold h n => House h ∧ 1 ≤ n ∧ n ≤ r.hold
  | .held h left age _ _ ask => House h ∧ 1 ≤ left ∧ left ≤ 2 * r.term ∧ 0 ≤ age ∧ age ≤ r.top ∧ askOk r h ask

@[simp] theorem r_ix0 (r : Ru) : ixD r.d (.int 0) = some (.v (.int r.term)) := rfl
@[simp] theorem r_ix1 (r : Ru) : ixD r.d (.int 1) = some (.v (.int r.add)) := rfl
@[simp] theorem r_ix2 (r : Ru) : ixD r.d (.int 2) = some (.v (.int r.grace)) := rfl
@[simp] theorem r_ix3 (r : Ru) : ixD r.d (.int 3) = some (.v (.int r.hold)) := rfl
@[simp] theorem r_ix4 (r : Ru) : ixD r.d (.int 4) = some (.v (.int r.wait)) := rfl
@[simp] theorem r_ix5 (r : Ru) : ixD r.d (.int 5) = some (.v (.int r.lock)) := rfl
@[simp] theorem r_ix6 (r : Ru) : ixD r.d (.int 6) = some (.v (.int r.ask)) := rfl
@[simp] theorem r_ix7 (r : Ru) : ixD r.d (.int 7) = some (.v (.bool r.silent)) := rfl
@[simp] theorem r_tup (r : Ru) : isiD ["tuple"] r.d = true := rfl
@[simp] theorem r_len (r : Ru) : lenD [r.d] = some (.v (.int 8)) := rfl
theorem r_cut (r : Ru) : slD r.d (some 1) (some 6) = some (.v (.tuple [.int r.add, .int r.grace, .int r.hold, .int r.wait, .int r.lock])) := rfl
/-! ## things of any kind -/
def numB (d : D) (lo hi : Int) : Bool := match d with
  | .int i => decide (lo ≤ i ∧ i ≤ hi)
  | _ => false
def truB : D → Bool
  | .bool _ => true
  | _ => false
theorem number_any (d : D) : F_is_number.run [d] = some (.v (.bool (match d with
    | .int i => decide (0 ≤ i)
    | _ => false)), []) := by cases d <;> rfl
theorem between_any (d : D) {lo hi : Int} (h : 0 ≤ lo) : F_is_between.run [d, .int lo, .int hi] = some (.v (.bool (numB d lo hi)), []) := by
  have hn := number_any d
  rw [u_is_between, x_run _ _ _ _ rfl, b_is_between]
  cases d with
  | int i =>
    by_cases h0 : 0 ≤ i
    · by_cases h1 : lo ≤ i <;> by_cases h2 : i ≤ hi <;> (first | (simp (implicitDefEqProofs := false) [hn, numB, h0, h1, h2]; done) | simp [hn, numB, h0, h1, h2])
    · have h1 : ¬ lo ≤ i := by omega
      (first | (simp (implicitDefEqProofs := false) [hn, numB, h0, h1]; done) | simp [hn, numB, h0, h1])
  | _ => (first | (simp (implicitDefEqProofs := false) [hn, numB]; done) | simp [hn, numB])
theorem upto_any (d : D) (m : Int) : F_is_up_to.run [d, .int m] = some (.v (.bool (numB d 0 m)), []) := by
  have hn := number_any d
  rw [u_is_up_to, x_run _ _ _ _ rfl, b_is_up_to]
  cases d with
  | int i => by_cases h0 : 0 ≤ i <;> by_cases h1 : i ≤ m <;> (first | (simp (implicitDefEqProofs := false) [hn, numB, h0, h1]; done) | simp [hn, numB, h0, h1])
  | _ => (first | (simp (implicitDefEqProofs := false) [hn, numB]; done) | simp [hn, numB])
theorem truth_any (d : D) : F_is_truth_values.run [d] = some (.v (.bool (truB d)), []) := by cases d <;> rfl
theorem house_any (d : D) : F_is_house.run [d] = some (.v (.bool (numB d 0 3)), []) := by
  rw [u_is_house, x_run _ _ _ _ rfl, b_is_house]
  (first | (simp (implicitDefEqProofs := false) [upto_any]; done) | simp [upto_any])
theorem age_run (r : Ru) : F_greatest_age.run [r.d] = some (.v (.int r.top), []) := by
  rw [u_greatest_age, x_run _ _ _ _ rfl, b_greatest_age]
  (first | (simp (implicitDefEqProofs := false) [Ru.top, x_maxM, -x_maxI]; done) | simp [Ru.top, x_maxM, -x_maxI])
theorem lnum_any (d : D) (lo hi : Int) : F_l_is_number.run [d, .int lo, .int hi] = some (.v (.bool (numB d lo hi)), []) := by
  rw [u_l_is_number, x_run _ _ _ _ rfl, b_l_is_number]
  cases d with
  | int i => by_cases h0 : lo ≤ i <;> by_cases h1 : i ≤ hi <;> (first | (simp (implicitDefEqProofs := false) [numB, h0, h1]; done) | simp [numB, h0, h1])
  | _ => (first | (simp (implicitDefEqProofs := false) [numB]; done) | simp [numB])
theorem isb (d : D) : isiD ["bool"] d = truB d := by cases d <;> rfl
/-! ## rules -/
def planB : D → Bool
  | .tuple [a, b, c, d, e, f, g, h] => numB a 1 9 && ([b, c, d, e, f].all fun x => numB x 0 4) && numB g 1 4 && truB h
  | _ => false
theorem planB_len {ds : List D} (h : ds.length ≠ 8) : planB (.tuple ds) = false := by
  unfold planB
  split
  · rename_i e; cases e; exact absurd rfl h
  · rfl
theorem lc5 (q : ME) (d : D) (l : List D) (hl : l.length ≤ 5) (hq : ∀ x ρ0, q [some (.v d), some (.v x)] = some (.v (.bool (numB x 0 4)), [some (.v d), some (.v x)]) ∨ ρ0 = (0 : Nat)) :
    lcL [1] (gN [] 1) bYes q l [some (.v d), none] [] = some (l.map fun x => .bool (numB x 0 4), [some (.v d), none]) := by
  refine lcL_map (fun x => .bool (numB x 0 4)) (by omega) fun x hx => ?_
  have h1 : q [some (.v d), some (.v x)] = some (.v (.bool (numB x 0 4)), [some (.v d), some (.v x)]) := (hq x 1).elim id fun h => by cases h
  exact ⟨[some (.v d), some (.v x)], _, .v (.bool (numB x 0 4)), [some (.v d), some (.v x)], by simp, rfl, h1, rfl, by simp⟩
theorem all5 (l : List D) : allD [.list (l.map fun x => .bool (numB x 0 4))] = some (.v (.bool (l.all fun x => numB x 0 4))) := by
  have e := x_all (boolsOf_mp (fun x => numB x 0 4) l)
  rw [e, List.all_map]
  rfl
theorem cut5 (a b c d e f g h : D) : cut [a, b, c, d, e, f, g, h] (some 1) (some 6) = [b, c, d, e, f] := rfl
theorem rules_any (v : D) : F_is_rules_by.run [v] = some (.v (.bool (planB v)), []) := by
  rw [u_is_rules_by, x_run _ _ _ _ rfl, b_is_rules_by]
  cases v with
  | tuple ds =>
    by_cases hl : ds.length = 8
    · match ds, hl with
      | [a, b, c, d, e, f, g, h], _ =>
        have lc := lc5 q_is_rules_by_1 (.tuple [a, b, c, d, e, f, g, h]) [b, c, d, e, f] (by simp) (fun x _ => .inl (by (first | (simp (implicitDefEqProofs := false) [q_is_rules_by_1, upto_any]; done) | simp [q_is_rules_by_1, upto_any])))
        have al := all5 [b, c, d, e, f]
        have ba := between_any a (lo := 1) (hi := 9) (by decide)
        have bg := between_any g (lo := 1) (hi := 4) (by decide)
        have pb : planB (.tuple [a, b, c, d, e, f, g, h]) = (numB a 1 9 && ([b, c, d, e, f].all fun x => numB x 0 4) && numB g 1 4 && truB h) := rfl
        rw [pb]
        generalize ([b, c, d, e, f].all fun x => numB x 0 4) = al5 at al ⊢
        cases h1 : numB a 1 9 <;> cases al5 <;> cases h3 : numB g 1 4 <;> (first | (simp (implicitDefEqProofs := false) [-List.map_cons, -List.map_nil, cut5, lc, al, ba, bg, truth_any, h1, h3]; done) | simp [-List.map_cons, -List.map_nil, cut5, lc, al, ba, bg, truth_any, h1, h3])
    · have hl' : ¬ ((ds.length : Int) = 8) := by omega
      (first | (simp (implicitDefEqProofs := false) [hl, hl', planB_len hl]; done) | simp [hl, hl', planB_len hl])
  | _ => (first | (simp (implicitDefEqProofs := false) [planB]; done) | simp [planB])
/-! ## lives -/
def neqI : D → D → Bool
  | .int i, .int j => !decide (i = j)
  | _, _ => false
def askB (r : Ru) (h : D) : D → Bool
  | .none => true
  | .tuple [g, n] => numB g 0 3 && neqI g h && numB n 1 r.ask
  | _ => false
def heldB (r : Ru) : List D → Bool
  | [h, left, age, l, c, a] => numB h 0 3 && numB left 1 (2 * r.term) && numB age 0 r.top && truB l && truB c && askB r h a
  | _ => false
def lateB (m : Int) : List D → Bool
  | [h, n] => numB h 0 3 && numB n 1 m
  | _ => false
def waitB (m : Int) : List D → Bool
  | [n] => numB n 1 m
  | _ => false
def wordB (r : Ru) (w : Str) (rest : List D) : Bool :=
  if w = "free" then rest.isEmpty else if w = "held" then heldB r rest else if w = "wait" then waitB r.wait rest
  else if w = "grace" then lateB r.grace rest else if w = "hold" then lateB r.hold rest else false
def lifeB (r : Ru) : D → Bool
  | .tuple (.str w :: rest) => wordB r w rest
  | _ => false
theorem words_in (w : Str) : inD (.str w) C_WORDS = some (.v (.bool (decide (w = "free") || decide (w = "held") || decide (w = "grace") || decide (w = "hold") || decide (w = "wait")))) := by
  have e : C_WORDS = .tuple [.str "free", .str "held", .str "grace", .str "hold", .str "wait"] := rfl
  rw [e, x_inT _ _ rfl rfl]
  have sw : ∀ a b : Str, decide (a = b) = decide (b = a) := fun a b => by
    by_cases h : a = b
    · subst h; rfl
    · rw [decide_eq_false h, decide_eq_false (Ne.symm h)]
  simp only [List.any_cons, List.any_nil, x_eqvS, Bool.or_false]
  rw [sw "free", sw "held", sw "grace", sw "hold", sw "wait"]
  simp only [Bool.or_assoc]
theorem named_any (x : D) : F_is_named.run [x, C_WORDS] = some (.v (.bool (match x with
    | .str w => decide (w = "free") || decide (w = "held") || decide (w = "grace") || decide (w = "hold") || decide (w = "wait")
    | _ => false)), []) := by
  rw [u_is_named, x_run _ _ _ _ rfl, b_is_named]
  cases x with
  | str w => (first | (simp (implicitDefEqProofs := false) [words_in]; done) | simp [words_in])
  | _ => simp
theorem neI_any {g h : D} {a b : Int} {c d : Int} (h1 : numB g a b = true) (h2 : numB h c d = true) : neD g h = some (.v (.bool (neqI g h))) := by
  cases g <;> first | cases h1 | skip
  cases h <;> first | cases h2 | skip
  rw [x_neI]; rfl
theorem ask_any (r : Ru) (hk : 1 ≤ r.ask) (a h : D) {c d : Int} (hh : numB h c d = true) : F_is_ask.run [r.d, a, h] = some (.v (.bool (askB r h a)), []) := by
  rw [u_is_ask, x_run _ _ _ _ rfl, b_is_ask]
  cases a with
  | tuple ds =>
    by_cases hl : ds.length = 2
    · match ds, hl with
      | [g, n], _ =>
        have ba := between_any n (lo := 1) (hi := r.ask) (by decide)
        cases h1 : numB g 0 3 with
        | false => (first | (simp (implicitDefEqProofs := false) [isN, house_any, askB, h1]; done) | simp [isN, house_any, askB, h1])
        | true =>
          have ne := neI_any h1 hh
          cases h2 : neqI g h <;> (first | (simp (implicitDefEqProofs := false) [isN, house_any, askB, h1, ne, h2, ba]; done) | simp [isN, house_any, askB, h1, ne, h2, ba])
    · have hl' : ¬ ((ds.length : Int) = 2) := by omega
      have : askB r h (.tuple ds) = false := by
        unfold askB
        split
        · rename_i e; cases e
        · rename_i e; cases e; exact absurd rfl hl
        · rfl
      (first | (simp (implicitDefEqProofs := false) [isN, hl', this]; done) | simp [isN, hl', this])
  | _ => (first | (simp (implicitDefEqProofs := false) [isN, askB]; done) | simp [isN, askB])
theorem heldB_len {r : Ru} {ds : List D} (h : ds.length ≠ 6) : heldB r ds = false := by
  unfold heldB
  split
  · exact absurd rfl h
  · rfl
theorem held_any (r : Ru) (hr : r.Ok) (rest : List D) : F_is_held.run [r.d, .tuple (.str "held" :: rest)] = some (.v (.bool (heldB r rest)), []) := by
  rw [u_is_held, x_run _ _ _ _ rfl, b_is_held]
  have t1 := hr.t1
  have t2 := hr.t2
  by_cases hl : rest.length = 6
  · match rest, hl with
    | [h, left, age, l, c, a], _ =>
      have bl := between_any left (lo := 1) (hi := 2 * r.term) (by decide)
      have pb : heldB r [h, left, age, l, c, a] = (numB h 0 3 && numB left 1 (2 * r.term) && numB age 0 r.top && truB l && truB c && askB r h a) := rfl
      rw [pb]
      cases h1 : numB h 0 3 with
      | false => (first | (simp (implicitDefEqProofs := false) [house_any, h1]; done) | simp [house_any, h1])
      | true =>
        have ak := ask_any r hr.k1 a h h1
        cases h2 : numB left 1 (2 * r.term) <;> cases h3 : numB age 0 r.top <;> cases h4 : truB l <;> cases h5 : truB c <;> (first | (simp (implicitDefEqProofs := false) [house_any, h1, bl, h2, age_run, upto_any, h3, truth_any, h4, h5, ak]; done) | simp [house_any, h1, bl, h2, age_run, upto_any, h3, truth_any, h4, h5, ak])
  · have hl' : ¬ ((rest.length : Int) + 1 = 7) := by omega
    have hl2 : ¬ ((rest.length : Int) = 6) := by omega
    (first | (simp (implicitDefEqProofs := false) [hl, hl', hl2, heldB_len hl]; done) | simp [hl, hl', hl2, heldB_len hl])
theorem lateB_len {m : Int} {ds : List D} (h : ds.length ≠ 2) : lateB m ds = false := by
  unfold lateB
  split
  · exact absurd rfl h
  · rfl
theorem waitB_len {m : Int} {ds : List D} (h : ds.length ≠ 1) : waitB m ds = false := by
  unfold waitB
  split
  · exact absurd rfl h
  · rfl
theorem life_any (r : Ru) (hr : r.Ok) (v : D) : F_is_life_by.run [r.d, v] = some (.v (.bool (lifeB r v)), []) := by
  rw [u_is_life_by, x_run _ _ _ _ rfl, b_is_life_by]
  cases v with
  | tuple ds =>
    cases ds with
    | nil => (first | (simp (implicitDefEqProofs := false) [lifeB]; done) | simp [lifeB])
    | cons x rest =>
      have hz : ¬ ((rest.length : Int) + 1 = 0) := by omega
      have hn := named_any x
      cases x with
      | str w =>
        have lb : lifeB r (.tuple (.str w :: rest)) = wordB r w rest := rfl
        rw [lb]
        by_cases w1 : w = "free"
        · subst w1
          have e : ((rest.length : Int) + 1 = 1) ↔ rest = [] := by rw [← List.length_eq_zero_iff]; omega
          cases rest with
          | nil => (first | (simp (decide := true) (implicitDefEqProofs := false) [hz, hn, wordB]; done) | simp (decide := true) [hz, hn, wordB])
          | cons y ys =>
            have e2 : ¬ ((ys.length : Int) + 1 + 1 = 1) := by omega
            have e3 : ¬ ((ys.length : Int) + 1 = 0) := by omega
            have e4 : ¬ ((ys.length : Int) + 1 + 1 = 0) := by omega
            (first | (simp (decide := true) (implicitDefEqProofs := false) [hn, wordB, e2, e3, e4]; done) | simp (decide := true) [hn, wordB, e2, e3, e4])
        · by_cases w2 : w = "held"
          · subst w2
            have hh := held_any r hr rest
            (first | (simp (decide := true) (implicitDefEqProofs := false) [hz, hn, wordB, hh]; done) | simp (decide := true) [hz, hn, wordB, hh])
          · by_cases w3 : w = "wait"
            · subst w3
              by_cases hl : rest.length = 1
              · match rest, hl with
                | [n], _ =>
                  have bn := between_any n (lo := 1) (hi := r.wait) (by decide)
                  (first | (simp (decide := true) (implicitDefEqProofs := false) [hn, wordB, waitB, bn]; done) | simp (decide := true) [hn, wordB, waitB, bn])
              · have hl' : ¬ ((rest.length : Int) + 1 = 2) := by omega
                have hl2 : ¬ ((rest.length : Int) = 1) := by omega
                (first | (simp (decide := true) (implicitDefEqProofs := false) [hz, hn, wordB, hl, hl', hl2, waitB_len hl]; done) | simp (decide := true) [hz, hn, wordB, hl, hl', hl2, waitB_len hl])
            · by_cases w4 : w = "grace"
              · subst w4
                by_cases hl : rest.length = 2
                · match rest, hl with
                  | [h, n], _ =>
                    have bn := between_any n (lo := 1) (hi := r.grace) (by decide)
                    cases h1 : numB h 0 3 <;> (first | (simp (decide := true) (implicitDefEqProofs := false) [hn, wordB, lateB, bn, house_any, h1]; done) | simp (decide := true) [hn, wordB, lateB, bn, house_any, h1])
                · have hl' : ¬ ((rest.length : Int) + 1 = 3) := by omega
                  have hl2 : ¬ ((rest.length : Int) = 2) := by omega
                  (first | (simp (decide := true) (implicitDefEqProofs := false) [hz, hn, wordB, hl, hl', hl2, lateB_len hl]; done) | simp (decide := true) [hz, hn, wordB, hl, hl', hl2, lateB_len hl])
              · by_cases w5 : w = "hold"
                · subst w5
                  by_cases hl : rest.length = 2
                  · match rest, hl with
                    | [h, n], _ =>
                      have bn := between_any n (lo := 1) (hi := r.hold) (by decide)
                      cases h1 : numB h 0 3 <;> (first | (simp (decide := true) (implicitDefEqProofs := false) [hn, wordB, lateB, bn, house_any, h1]; done) | simp (decide := true) [hn, wordB, lateB, bn, house_any, h1])
                  · have hl' : ¬ ((rest.length : Int) + 1 = 3) := by omega
                    have hl2 : ¬ ((rest.length : Int) = 2) := by omega
                    (first | (simp (decide := true) (implicitDefEqProofs := false) [hz, hn, wordB, hl, hl', hl2, lateB_len hl]; done) | simp (decide := true) [hz, hn, wordB, hl, hl', hl2, lateB_len hl])
                · (first | (simp (implicitDefEqProofs := false) [hz, hn, wordB, w1, w2, w3, w4, w5]; done) | simp [hz, hn, wordB, w1, w2, w3, w4, w5])
      | _ => (first | (simp (implicitDefEqProofs := false) [hz, hn, lifeB]; done) | simp [hz, hn, lifeB])
  | _ => (first | (simp (implicitDefEqProofs := false) [lifeB]; done) | simp [lifeB])
end K18
namespace K18
open PySem PySem.Spec L2 Z
open PyProof.Rows hiding St

def waitS (r : Ru) : Li := if 0 < r.wait then .wait r.wait else .free
def fallS (r : Ru) (h : Int) : Li := if 0 < r.hold then .hold h r.hold else waitS r
def lapsS (r : Ru) (h : Int) : Li := if 0 < r.grace then .grace h r.grace else fallS r h
def endS (r : Ru) (h left age : Int) (l c : Bool) (a : Option (Int × Int)) : Li := if left = 1 then lapsS r h else .held h (left - 1) age l c a
def Li.turn (r : Ru) : Li → Li
  | .free => .free
  | .wait n => if 1 < n then .wait (n - 1) else .free
  | .grace h n => if 1 < n then .grace h (n - 1) else fallS r h
  | .hold h n => if 1 < n then .hold h (n - 1) else waitS r
  | .held h left age l c none => endS r h left (min (age + 1) r.top) l c none
  | .held h left age l c (some (g, n)) => if n = 1 then (if r.silent then endS r g left 0 false false none else endS r h left (min (age + 1) r.top) l c none) else endS r h left (min (age + 1) r.top) l c (some (g, n - 1))
theorem waiting_run (r : Ru) : F_waiting.run [r.d] = some (.v (waitS r).d, []) := by
  rw [u_waiting, x_run _ _ _ _ rfl, b_waiting]
  by_cases h : 0 < r.wait <;> simp [waitS, h, Li.d]
theorem fallen_run (r : Ru) (h : Int) : F_fallen.run [r.d, .int h] = some (.v (fallS r h).d, []) := by
  rw [u_fallen, x_run _ _ _ _ rfl, b_fallen]
  by_cases c : 0 < r.hold <;> simp [fallS, c, waiting_run]
  simp [Li.d]
theorem lapsed_run (r : Ru) (h : Int) : F_lapsed.run [r.d, .int h] = some (.v (lapsS r h).d, []) := by
  rw [u_lapsed, x_run _ _ _ _ rfl, b_lapsed]
  by_cases c : 0 < r.grace <;> simp [lapsS, c, fallen_run]
  simp [Li.d]
theorem moved_run (h left age g : Int) (l c : Bool) (a : D) : F_moved.run [.tuple [.str "held", .int h, .int left, .int age, .bool l, .bool c, a], .int g] = some (.v (Li.held g left 0 false false none).d, []) := by
  rw [u_moved, x_run _ _ _ _ rfl, b_moved]
  simp [Li.d, askD]
theorem moves_run (r : Ru) (h left age : Int) (l c : Bool) (a : Option (Int × Int)) : F_moves_at_turn.run [r.d, .tuple [.str "held", .int h, .int left, .int age, .bool l, .bool c, askD a]] = some (.v (.bool (match a with
    | none => false
    | some (_, n) => decide (n = 1) && r.silent)), []) := by
  rw [u_moves_at_turn, x_run _ _ _ _ rfl, b_moves_at_turn]
  cases a with
  | none => simp [askD]
  | some p =>
    obtain ⟨g, n⟩ := p
    by_cases c1 : n = 1 <;> simp [askD, isN, c1]
theorem turned_ask_run (r : Ru) (h left age : Int) (l c : Bool) (a : Option (Int × Int)) : F_turned_ask.run [r.d, .tuple [.str "held", .int h, .int left, .int age, .bool l, .bool c, askD a]] = some (.v (match a with
    | none => Li.held h left age l c none
    | some (g, n) => if n = 1 then (if r.silent then .held g left 0 false false none else .held h left age l c none) else .held h left age l c (some (g, n - 1))).d, []) := by
  rw [u_turned_ask, x_run _ _ _ _ rfl, b_turned_ask]
  have hm := moves_run r h left age l c a
  cases a with
  | none =>
    have hm : F_moves_at_turn.run [r.d, .tuple [.str "held", .int h, .int left, .int age, .bool l, .bool c, .none]] = _ := hm
    simp [askD, hm, Li.d]
  | some p =>
    obtain ⟨g, n⟩ := p
    simp only [askD] at hm
    by_cases c1 : n = 1
    · subst c1
      cases c2 : r.silent <;> simp [askD, isN, hm, c2, moved_run, Li.d]
    · simp [askD, isN, hm, c1, Li.d]
theorem turned_held_run (r : Ru) (h left age : Int) (l c : Bool) (a : Option (Int × Int)) : F_turned_held.run [r.d, .tuple [.str "held", .int h, .int left, .int age, .bool l, .bool c, askD a]] = some (.v ((Li.held h left age l c a).turn r).d, []) := by
  rw [u_turned_held, x_run _ _ _ _ rfl, b_turned_held]
  have ha := turned_ask_run r h left (min (age + 1) r.top) l c a
  cases a with
  | none =>
    simp only [askD] at ha
    by_cases c2 : left = 1
    · subst c2
      simp [askD, x_minM, -x_minI, age_run, ha, lapsed_run, Li.turn, endS]
      simp [Li.d, lapsed_run]
    · simp [askD, x_minM, -x_minI, age_run, ha, lapsed_run, Li.turn, endS, c2]
      simp [Li.d, askD, lapsed_run, c2]
  | some p =>
    obtain ⟨g, n⟩ := p
    simp only [askD] at ha
    have fin : ∀ (g n : Int) (a : Option (Int × Int)) (age : Int) (l c : Bool), (left = 1 → True) → True := fun _ _ _ _ _ _ _ => trivial
    by_cases c1 : n = 1
    · subst c1
      cases c3 : r.silent <;> by_cases c2 : left = 1
      all_goals simp only [c3, if_true, if_false, Bool.false_eq_true] at ha
      all_goals first
        | (subst c2; simp [askD, x_minM, -x_minI, age_run, ha, lapsed_run, Li.turn, endS, c3]; simp [Li.d, askD, lapsed_run]; done)
        | (simp [askD, x_minM, -x_minI, age_run, ha, lapsed_run, Li.turn, endS, c2, c3]; simp [Li.d, askD, lapsed_run, c2]; done)
    · by_cases c2 : left = 1
      all_goals simp only [c1, if_false] at ha
      · subst c2; simp [askD, x_minM, -x_minI, age_run, ha, lapsed_run, Li.turn, endS, c1]; simp [Li.d, askD, lapsed_run]
      · simp [askD, x_minM, -x_minI, age_run, ha, lapsed_run, Li.turn, endS, c1, c2]; simp [Li.d, askD, lapsed_run, c2]
theorem turned_by_run (r : Ru) (x : Li) : F_turned_by.run [r.d, x.d] = some (.v (x.turn r).d, []) := by
  rw [u_turned_by, x_run _ _ _ _ rfl, b_turned_by]
  cases x with
  | free => simp (decide := true) [Li.d, Li.turn]
  | wait n => by_cases c : 1 < n <;> simp (decide := true) [Li.d, Li.turn, c]
  | grace h n => by_cases c : 1 < n <;> simp (decide := true) [Li.d, Li.turn, c, fallen_run]
  | hold h n => by_cases c : 1 < n <;> simp (decide := true) [Li.d, Li.turn, c, waiting_run]
  | held h left age l c a => simp (decide := true) [Li.d, turned_held_run]
def Li.holder : Li → Option Int
  | .held h .. => some h
  | .grace h _ => some h
  | .hold h _ => some h
  | _ => none
def oiD : Option Int → D
  | none => .none
  | some i => .int i
theorem waitS_ok {r : Ru} (hr : r.Ok) : (waitS r).Ok r := by
  unfold waitS
  split
  · exact ⟨by omega, Int.le_refl _⟩
  · trivial
theorem fallS_ok {r : Ru} (hr : r.Ok) {h : Int} (hh : House h) : (fallS r h).Ok r := by
  unfold fallS
  split
  · exact ⟨hh, by omega, Int.le_refl _⟩
  · exact waitS_ok hr
theorem lapsS_ok {r : Ru} (hr : r.Ok) {h : Int} (hh : House h) : (lapsS r h).Ok r := by
  unfold lapsS
  split
  · exact ⟨hh, by omega, Int.le_refl _⟩
  · exact fallS_ok hr hh
theorem endS_ok {r : Ru} (hr : r.Ok) {h left age : Int} {l c : Bool} {a : Option (Int × Int)} (ok : (Li.held h left age l c a).Ok r) : (endS r h left age l c a).Ok r := by
  obtain ⟨q0, q1, q2, q3, q4, q5⟩ := ok
  unfold endS
  split
  · exact lapsS_ok hr q0
  · exact ⟨q0, by omega, by omega, q3, q4, q5⟩
theorem top_ok {r : Ru} (hr : r.Ok) : 0 ≤ r.top := by
  have := hr.l1
  unfold Ru.top
  omega
theorem turn_ok {r : Ru} {x : Li} (hr : r.Ok) (hx : x.Ok r) : (x.turn r).Ok r := by
  have tp := top_ok hr
  cases x with
  | free => trivial
  | wait n =>
    obtain ⟨q1, q2⟩ := hx
    simp only [Li.turn]
    split
    · exact ⟨by omega, by omega⟩
    · trivial
  | grace h n =>
    obtain ⟨q0, q1, q2⟩ := hx
    simp only [Li.turn]
    split
    · exact ⟨q0, by omega, by omega⟩
    · exact fallS_ok hr q0
  | hold h n =>
    obtain ⟨q0, q1, q2⟩ := hx
    simp only [Li.turn]
    split
    · exact ⟨q0, by omega, by omega⟩
    · exact waitS_ok hr
  | held h left age l c a =>
    obtain ⟨q0, q1, q2, q3, q4, q5⟩ := hx
    cases a with
    | none => exact endS_ok hr ⟨q0, q1, q2, by omega, by omega, trivial⟩
    | some p =>
      obtain ⟨g, n⟩ := p
      obtain ⟨e1, e2, e3, e4⟩ := q5
      simp only [Li.turn]
      split
      · split
        · exact endS_ok hr ⟨e1, q1, q2, by omega, tp, trivial⟩
        · exact endS_ok hr ⟨q0, q1, q2, by omega, by omega, trivial⟩
      · exact endS_ok hr ⟨q0, q1, q2, by omega, by omega, ⟨e1, e2, by omega, by omega⟩⟩
/-! ## letters -/
inductive Dd where
  | create | renew | redeem | delete | lock | unlock | code | take | guess | agree | refuse
def Dd.s : Dd → Str
  | .create => "create"
  | .renew => "renew"
  | .redeem => "redeem"
  | .delete => "delete"
  | .lock => "lock"
  | .unlock => "unlock"
  | .code => "code"
  | .take => "take"
  | .guess => "guess"
  | .agree => "agree"
  | .refuse => "refuse"
def heldDone (r : Ru) (h left age : Int) (l c : Bool) (a : Option (Int × Int)) : Dd → Option Li
  | .renew => if left ≤ r.term then some (.held h (left + r.term) age l c a) else none
  | .delete => if l = true ∨ a.isSome = true then none else if age < r.add then some .free else some (fallS r h)
  | .lock => if a.isSome = true then none else some (.held h left age true c none)
  | .unlock => some (.held h left age false c a)
  | .code => some (.held h left age l true a)
  | .agree => match a with
    | none => none
    | some (g, _) => some (.held g left 0 false false none)
  | .refuse => if a.isSome = true then some (.held h left age l c none) else none
  | _ => none
def anew (r : Ru) (h : Int) : Li := .held h r.term r.top false false none
def Li.done (r : Ru) (h : Int) (e : Dd) : Li → Option Li
  | .free => match e with
    | .create => some (.held h r.term 0 false false none)
    | _ => none
  | .wait _ => none
  | .grace g _ => if g = h then (match e with
    | .renew => some (anew r g)
    | .delete => some (fallS r g)
    | _ => none) else none
  | .hold g _ => if g = h then (match e with
    | .redeem => some (anew r g)
    | _ => none) else none
  | .held g left age l c a => match e with
    | .create => none
    | .take => if g = h ∨ l = true ∨ c = false ∨ a.isSome = true ∨ age < r.lock then none else some (.held g left age l c (some (h, r.ask)))
    | e => if g = h then heldDone r g left age l c a e else none
def olD : Option Li → D
  | none => .none
  | some x => x.d
@[simp] theorem x_neNI (i : Int) : neD .none (.int i) = some (.v (.bool true)) := rfl

theorem created_run (r : Ru) (h : Int) : F_created.run [r.d, .int h] = some (.v (Li.held h r.term 0 false false none).d, []) := by
  rw [u_created, x_run _ _ _ _ rfl, b_created]
  (first | (simp (implicitDefEqProofs := false) [Li.d, askD]; done) | simp [Li.d, askD])
theorem revived_run (r : Ru) (h : Int) : F_revived.run [r.d, .int h] = some (.v (anew r h).d, []) := by
  rw [u_revived, x_run _ _ _ _ rfl, b_revived]
  (first | (simp (implicitDefEqProofs := false) [anew, Li.d, askD, age_run]; done) | simp [anew, Li.d, askD, age_run])
theorem taken_run (r : Ru) (x : Li) (h : Int) : F_taken.run [r.d, x.d, .int h] = some (.v (olD (x.done r h .take)), []) := by
  rw [u_taken, x_run _ _ _ _ rfl, b_taken]
  cases x with
  | held g left age l c a =>
    by_cases c1 : g = h <;> cases l <;> cases c <;> cases a <;> by_cases c2 : age < r.lock <;> (first | (simp (decide := true) (implicitDefEqProofs := false) [Li.d, Li.done, olD, askD, isN, c1, c2]; done) | simp (decide := true) [Li.d, Li.done, olD, askD, isN, c1, c2])
  | _ => (first | (simp (decide := true) (implicitDefEqProofs := false) [Li.d, Li.done, olD]; done) | simp (decide := true) [Li.d, Li.done, olD])
theorem deleted_run (r : Ru) (h left age : Int) (l c : Bool) (a : Option (Int × Int)) : F_deleted.run [r.d, (Li.held h left age l c a).d] = some (.v (olD (heldDone r h left age l c a .delete)), []) := by
  rw [u_deleted, x_run _ _ _ _ rfl, b_deleted]
  cases l <;> cases a <;> by_cases c2 : age < r.add <;> (first | (simp (decide := true) (implicitDefEqProofs := false) [Li.d, heldDone, olD, askD, isN, c2, fallen_run]; done) | simp (decide := true) [Li.d, heldDone, olD, askD, isN, c2, fallen_run])
theorem renewed_run (r : Ru) (h left age : Int) (l c : Bool) (a : Option (Int × Int)) : F_renewed.run [r.d, (Li.held h left age l c a).d] = some (.v (olD (heldDone r h left age l c a .renew)), []) := by
  rw [u_renewed, x_run _ _ _ _ rfl, b_renewed]
  by_cases c2 : left ≤ r.term <;> (first | (simp (decide := true) (implicitDefEqProofs := false) [Li.d, heldDone, olD, c2]; done) | simp (decide := true) [Li.d, heldDone, olD, c2])
theorem done_held_run (r : Ru) (h left age : Int) (l c : Bool) (a : Option (Int × Int)) (e : Dd) : F_done_held.run [r.d, (Li.held h left age l c a).d, .str e.s] = some (.v (olD (heldDone r h left age l c a e)), []) := by
  have h1 := deleted_run r h left age l c a
  have h2 := renewed_run r h left age l c a
  rw [u_done_held, x_run _ _ _ _ rfl, b_done_held]
  cases e
  case renew => (first | (simp (decide := true) (implicitDefEqProofs := false) [Dd.s, h2]; done) | simp (decide := true) [Dd.s, h2])
  case delete => (first | (simp (decide := true) (implicitDefEqProofs := false) [Dd.s, h1]; done) | simp (decide := true) [Dd.s, h1])
  all_goals (cases a <;> (first | (simp (decide := true) (implicitDefEqProofs := false) [Dd.s, Li.d, heldDone, olD, askD, isN, moved_run]; done) | simp (decide := true) [Dd.s, Li.d, heldDone, olD, askD, isN, moved_run]))
theorem done_late_run (r : Ru) (x : Li) (h : Int) (hx : (∃ n, x = .grace h n) ∨ ∃ n, x = .hold h n) (e : Dd) (he : e ≠ .create ∧ e ≠ .take) : F_done_late.run [r.d, x.d, .str e.s] = some (.v (olD (x.done r h e)), []) := by
  rw [u_done_late, x_run _ _ _ _ rfl, b_done_late]
  rcases hx with ⟨n, rfl⟩ | ⟨n, rfl⟩ <;> cases e <;> (first | (simp (decide := true) (implicitDefEqProofs := false) [Dd.s, Li.d, Li.done, olD, revived_run, fallen_run]; done) | simp (decide := true) [Dd.s, Li.d, Li.done, olD, revived_run, fallen_run])
theorem holder_of_run (x : Li) : F_holder_of.run [x.d] = some (.v (match x with
    | .held h .. => .int h
    | .grace h _ => .int h
    | .hold h _ => .int h
    | _ => .none), []) := by
  rw [u_holder_of, x_run _ _ _ _ rfl, b_holder_of]
  cases x <;> rfl
theorem done_by_run (r : Ru) (x : Li) (h : Int) (e : Dd) : F_done_by.run [r.d, x.d, .int h, .str e.s] = some (.v (olD (x.done r h e)), []) := by
  have hh := holder_of_run x
  have ht := taken_run r x h
  rw [u_done_by, x_run _ _ _ _ rfl, b_done_by]
  by_cases e1 : e = .create
  · subst e1
    cases x <;> (first | (simp (decide := true) (implicitDefEqProofs := false) [Dd.s, Li.d, Li.done, olD, created_run]; done) | simp (decide := true) [Dd.s, Li.d, Li.done, olD, created_run])
    all_goals try ((first | (simp (implicitDefEqProofs := false) [Li.d]; done) | simp [Li.d]))
  · by_cases e2 : e = .take
    · subst e2
      (first | (simp (decide := true) (implicitDefEqProofs := false) [Dd.s, ht]; done) | simp (decide := true) [Dd.s, ht])
    · have s1 : e.s ≠ "create" := by cases e <;> first | exact absurd rfl e1 | decide
      have s2 : e.s ≠ "take" := by cases e <;> first | exact absurd rfl e2 | decide
      cases x with
      | free =>
        have : (Li.free).done r h e = none := by cases e <;> first | rfl | exact absurd rfl e1
        (first | (simp (implicitDefEqProofs := false) [s1, s2, hh, this, olD]; done) | simp [s1, s2, hh, this, olD])
      | wait n => (first | (simp (implicitDefEqProofs := false) [s1, s2, hh, Li.done, olD]; done) | simp [s1, s2, hh, Li.done, olD])
      | grace g n =>
        by_cases c : g = h
        · subst c
          have hl := done_late_run r (.grace g n) g (.inl ⟨n, rfl⟩) e ⟨e1, e2⟩
          simp only [Li.d] at hl hh ⊢
          (first | (simp (decide := true) (implicitDefEqProofs := false) [s1, s2, hh, hl]; done) | simp (decide := true) [s1, s2, hh, hl])
        · (first | (simp (implicitDefEqProofs := false) [s1, s2, hh, Li.done, olD, c]; done) | simp [s1, s2, hh, Li.done, olD, c])
      | hold g n =>
        by_cases c : g = h
        · subst c
          have hl := done_late_run r (.hold g n) g (.inr ⟨n, rfl⟩) e ⟨e1, e2⟩
          simp only [Li.d] at hl hh ⊢
          (first | (simp (decide := true) (implicitDefEqProofs := false) [s1, s2, hh, hl]; done) | simp (decide := true) [s1, s2, hh, hl])
        · (first | (simp (implicitDefEqProofs := false) [s1, s2, hh, Li.done, olD, c]; done) | simp [s1, s2, hh, Li.done, olD, c])
      | held g left age l k a =>
        have hd := done_held_run r g left age l k a e
        have dn : (Li.held g left age l k a).done r h e = if g = h then heldDone r g left age l k a e else none := by
          cases e <;> first | rfl | exact absurd rfl e1 | exact absurd rfl e2
        rw [dn]
        by_cases c : g = h
        · subst c
          simp only [Li.d] at hd hh ⊢
          (first | (simp (decide := true) (implicitDefEqProofs := false) [s1, s2, hh, hd]; done) | simp (decide := true) [s1, s2, hh, hd])
        · (first | (simp (implicitDefEqProofs := false) [s1, s2, hh, olD, c]; done) | simp [s1, s2, hh, olD, c])
theorem isN_ol (o : Option Li) : isN (olD o) = !o.isSome := by
  cases o with
  | none => rfl
  | some x => cases x <;> rfl
def ansD (o : Option Li) : D := .str (if o.isSome = true then "done" else "refused")
theorem answered_by_run (r : Ru) (x : Li) (h : Int) (e : Dd) : F_answered_by.run [r.d, x.d, .int h, .str e.s] = some (.v (.tuple [((x.done r h e).getD x).d, ansD (x.done r h e)]), []) := by
  have hd := done_by_run r x h e
  rw [u_answered_by, x_run _ _ _ _ rfl, b_answered_by]
  cases q : x.done r h e with
  | none => rw [q] at hd; (first | (simp (implicitDefEqProofs := false) [hd, isN_ol, ansD, olD]; done) | simp [hd, isN_ol, ansD, olD])
  | some y => rw [q] at hd; (first | (simp (implicitDefEqProofs := false) [hd, isN_ol, ansD]; done) | simp [hd, isN_ol, ansD]); (first | (simp (implicitDefEqProofs := false) [olD]; done) | simp [olD])


theorem done_ok {r : Ru} (hr : r.Ok) {x y : Li} (hx : x.Ok r) {h : Int} (hh : House h) {e : Dd} (q : x.done r h e = some y) : y.Ok r := by
  have tp := top_ok hr
  have t1 := hr.t1
  have k1 := hr.k1
  have new : ∀ g : Int, House g → (anew r g).Ok r := fun g hg => ⟨hg, t1, by omega, tp, Int.le_refl _, trivial⟩
  cases x with
  | free =>
    cases e <;> first
      | (cases q; exact ⟨hh, t1, by omega, Int.le_refl _, tp, trivial⟩)
      | cases q
  | wait n => cases q
  | grace g n =>
    simp only [Li.done] at q
    split at q
    · cases e <;> first
        | (cases q; exact new g hx.1)
        | (cases q; exact fallS_ok hr hx.1)
        | cases q
    · cases q
  | hold g n =>
    simp only [Li.done] at q
    split at q
    · cases e <;> first
        | (cases q; exact new g hx.1)
        | cases q
    · cases q
  | held g left age l c a =>
    obtain ⟨q0, q1, q2, q3, q4, q5⟩ := hx
    have hd : ∀ e, heldDone r g left age l c a e = some y → y.Ok r := by
      intro e q
      unfold heldDone at q
      cases e
      case renew =>
        simp only at q
        split at q
        · cases q; exact ⟨q0, by omega, by omega, q3, q4, q5⟩
        · cases q
      case delete =>
        simp only at q
        split at q
        · cases q
        · split at q
          · cases q; trivial
          · cases q; exact fallS_ok hr q0
      case lock =>
        simp only at q
        split at q
        · cases q
        · cases q; exact ⟨q0, q1, q2, q3, q4, trivial⟩
      case unlock => cases q; exact ⟨q0, q1, q2, q3, q4, q5⟩
      case code => cases q; exact ⟨q0, q1, q2, q3, q4, q5⟩
      case agree =>
        cases a with
        | none => cases q
        | some p =>
          obtain ⟨g2, n2⟩ := p
          cases q; exact ⟨q5.1, q1, q2, Int.le_refl _, tp, trivial⟩
      case refuse =>
        simp only at q
        split at q
        · cases q; exact ⟨q0, q1, q2, q3, q4, trivial⟩
        · cases q
      all_goals cases q
    cases e
    case create => cases q
    case take =>
      simp only [Li.done] at q
      split at q
      · cases q
      · rename_i hn
        cases q
        exact ⟨q0, q1, q2, q3, q4, hh, fun e => hn (.inl e.symm), k1, Int.le_refl _⟩
    all_goals
      simp only [Li.done] at q
      split at q
      · exact hd _ q
      · cases q
end K18
namespace K18
open PySem PySem.Spec L2 Z
open PyProof.Rows hiding St

/-! ## views -/
def tupB (v : D) (lo hi : Int) : Bool := match v with
  | .tuple ds => decide (lo ≤ (ds.length : Int)) && decide ((ds.length : Int) ≤ hi)
  | _ => false
theorem upto_run (v : D) (lo hi : Int) : F_is_tuple_up_to.run [v, .int lo, .int hi] = some (.v (.bool (tupB v lo hi)), []) := by
  rw [u_is_tuple_up_to, x_run _ _ _ _ rfl, b_is_tuple_up_to]
  cases v with
  | tuple ds => by_cases h1 : lo ≤ (ds.length : Int) <;> by_cases h2 : (ds.length : Int) ≤ hi <;> (first | (simp (implicitDefEqProofs := false) [tupB, h1, h2]; done) | simp [tupB, h1, h2])
  | _ => (first | (simp (implicitDefEqProofs := false) [tupB]; done) | simp [tupB])
theorem tupof_run (v : D) (n : Int) : F_is_tuple_of.run [v, .int n] = some (.v (.bool (tupB v n n)), []) := by
  rw [u_is_tuple_of, x_run _ _ _ _ rfl, b_is_tuple_of]
  (first | (simp (implicitDefEqProofs := false) [upto_run]; done) | simp [upto_run])
theorem tup_len {v : D} {n : Nat} (h : tupB v n n = true) : ∃ ds, v = .tuple ds ∧ ds.length = n := by
  unfold tupB at h
  split at h
  · rename_i ds
    rw [Bool.and_eq_true, decide_eq_true_eq, decide_eq_true_eq] at h
    exact ⟨ds, rfl, by omega⟩
  · cases h
theorem tup_of {ds : List D} {n : Nat} (h : ds.length = n) : tupB (.tuple ds) n n = true := by
  subst h
  (first | (simp (implicitDefEqProofs := false) [tupB]; done) | simp [tupB])
def strIn (ws : List Str) : D → Bool
  | .str z => ws.any fun w => decide (w = z)
  | _ => false
theorem nd_str : ∀ ws : List Str, noDicts (ws.map .str) = true
  | [] => rfl
  | w :: ws => by
    show (noDict (.str w) && noDicts (ws.map .str)) = true
    rw [nd_str ws]; rfl
theorem in_str (ws : List Str) (z : Str) : inD (.str z) (.tuple (ws.map .str)) = some (.v (.bool (strIn ws (.str z)))) := by
  rw [x_inT _ _ rfl (nd_str ws), List.any_map]
  rfl
theorem named_in (ws : List Str) (x : D) : F_is_named.run [x, .tuple (ws.map .str)] = some (.v (.bool (strIn ws x)), []) := by
  rw [u_is_named, x_run _ _ _ _ rfl, b_is_named]
  cases x with
  | str z => (first | (simp (implicitDefEqProofs := false) [-List.map_cons, -List.map_nil, in_str]; done) | simp [-List.map_cons, -List.map_nil, in_str])
  | _ => (first | (simp (implicitDefEqProofs := false) [strIn]; done) | simp [strIn])
def dds : List Str := ["create", "renew", "redeem", "delete", "lock", "unlock", "code", "take", "guess", "agree", "refuse"]
def wws : List Str := ["free", "held", "grace", "hold", "wait"]
def ans : List Str := ["done", "refused"]
theorem dds_c : C_DEEDS = .tuple (dds.map .str) := rfl
theorem wws_c : C_WORDS = .tuple (wws.map .str) := rfl
def sentB (lo days : Int) : D → Bool
  | .tuple [a, b, c] => numB a lo days && strIn dds b && (isN c || strIn ans c)
  | _ => false
def seenB (lo days : Int) : D → Bool
  | .tuple [a, b, c] => numB a lo days && strIn wws b && (isN c || numB c 0 3)
  | _ => false
theorem sentB_len {lo days : Int} {ds : List D} (h : ds.length ≠ 3) : sentB lo days (.tuple ds) = false := by
  unfold sentB
  split
  · rename_i e; cases e; exact absurd rfl h
  · rfl
theorem seenB_len {lo days : Int} {ds : List D} (h : ds.length ≠ 3) : seenB lo days (.tuple ds) = false := by
  unfold seenB
  split
  · rename_i e; cases e; exact absurd rfl h
  · rfl
theorem three {ds : List D} (h : ds.length = 3) : ∃ a b c, ds = [a, b, c] := match ds, h with
  | [a, b, c], _ => ⟨a, b, c, rfl⟩
theorem sent_run (v : D) (days : Int) : F_is_sent.run [v, .int days] = some (.v (.bool (sentB 1 days v)), []) := by
  have tv := tupof_run v 3
  rw [u_is_sent, x_run _ _ _ _ rfl, b_is_sent]
  cases ht : tupB v 3 3 with
  | false =>
    have : sentB 1 days v = false := by
      cases v with
      | tuple ds => exact sentB_len fun h => Bool.false_ne_true (ht.symm.trans (tup_of (n := 3) h))
      | _ => rfl
    (first | (simp (implicitDefEqProofs := false) [tv, ht, this]; done) | simp [tv, ht, this])
  | true =>
    obtain ⟨ds, rfl, hl⟩ := tup_len (n := 3) ht
    obtain ⟨a, b, c, rfl⟩ := three hl
    have ba := between_any a (lo := 1) (hi := days) (by decide)
    have nb := named_in dds b
    have nc := named_in ans c
    rw [← dds_c] at nb
    have e : (PyData.tuple [.str "done", .str "refused"] : D) = .tuple (ans.map .str) := rfl
    have pb : sentB 1 days (.tuple [a, b, c]) = (numB a 1 days && strIn dds b && (isN c || strIn ans c)) := rfl
    rw [pb]
    cases h1 : numB a 1 days <;> cases h2 : strIn dds b <;> cases h3 : isN c <;> (first | (simp (implicitDefEqProofs := false) [-List.map_cons, -List.map_nil, tv, ht, ba, nb, h1, h2, h3, e, nc]; done) | simp [-List.map_cons, -List.map_nil, tv, ht, ba, nb, h1, h2, h3, e, nc])
theorem seen_run (v : D) (days : Int) : F_is_seen.run [v, .int days] = some (.v (.bool (seenB 1 days v)), []) := by
  have tv := tupof_run v 3
  rw [u_is_seen, x_run _ _ _ _ rfl, b_is_seen]
  cases ht : tupB v 3 3 with
  | false =>
    have : seenB 1 days v = false := by
      cases v with
      | tuple ds => exact seenB_len fun h => Bool.false_ne_true (ht.symm.trans (tup_of (n := 3) h))
      | _ => rfl
    (first | (simp (implicitDefEqProofs := false) [tv, ht, this]; done) | simp [tv, ht, this])
  | true =>
    obtain ⟨ds, rfl, hl⟩ := tup_len (n := 3) ht
    obtain ⟨a, b, c, rfl⟩ := three hl
    have ba := between_any a (lo := 1) (hi := days) (by decide)
    have nb := named_in wws b
    rw [← wws_c] at nb
    have pb : seenB 1 days (.tuple [a, b, c]) = (numB a 1 days && strIn wws b && (isN c || numB c 0 3)) := rfl
    rw [pb]
    cases h1 : numB a 1 days <;> cases h2 : strIn wws b <;> cases h3 : isN c <;> (first | (simp (implicitDefEqProofs := false) [tv, ht, ba, nb, h1, h2, h3, house_any]; done) | simp [tv, ht, ba, nb, h1, h2, h3, house_any])
/-- the day that stands first -/
def dayOf : D → Int
  | .tuple (.int i :: _) => i
  | _ => 0
theorem sent_day {lo days : Int} {d : D} (h : sentB lo days d = true) : ixD d (.int 0) = some (.v (.int (dayOf d))) ∧ lo ≤ dayOf d ∧ dayOf d ≤ days := by
  unfold sentB at h
  split at h
  · rename_i a b c
    simp only [Bool.and_eq_true] at h
    have h1 := h.1.1
    cases a <;> first
      | (simp only [numB, decide_eq_true_eq] at h1; exact ⟨rfl, h1⟩)
      | cases h1
  · cases h
theorem seen_day {lo days : Int} {d : D} (h : seenB lo days d = true) : ixD d (.int 0) = some (.v (.int (dayOf d))) ∧ lo ≤ dayOf d ∧ dayOf d ≤ days := by
  unfold seenB at h
  split at h
  · rename_i a b c
    simp only [Bool.and_eq_true] at h
    have h1 := h.1.1
    cases a <;> first
      | (simp only [numB, decide_eq_true_eq] at h1; exact ⟨rfl, h1⟩)
      | cases h1
  · cases h
def leCh : List Int → Bool
  | a :: b :: r => decide (a ≤ b) && leCh (b :: r)
  | _ => true
def ltCh : List Int → Bool
  | a :: b :: r => decide (a < b) && ltCh (b :: r)
  | _ => true
theorem all_bool {α : Type} (p : α → Bool) (l : List α) : allD [.list (l.map fun x => .bool (p x))] = some (.v (.bool (l.all p))) := by
  have e := x_all (boolsOf_mp p l)
  rw [e, List.all_map]
  rfl
theorem zip_mem : ∀ {ds es : List D} {d : D}, d ∈ zipD ds es → ∃ x y, d = .tuple [x, y] ∧ x ∈ ds ∧ y ∈ es
  | [], es, d, h => by cases h
  | x :: ds, [], d, h => by cases h
  | x :: ds, y :: es, d, h => by
    rw [zipD] at h
    rcases List.mem_cons.mp h with h | h
    · exact ⟨x, y, h, List.mem_cons_self, List.mem_cons_self⟩
    · obtain ⟨a, b, e, h1, h2⟩ := zip_mem h
      exact ⟨a, b, e, List.mem_cons_of_mem _ h1, List.mem_cons_of_mem _ h2⟩
def pairP (p : Int → Int → Bool) : D → Bool
  | .tuple [x, y] => p (dayOf x) (dayOf y)
  | _ => false
theorem le_zip : ∀ ds : List D, (zipD ds (ds.drop 1)).all (pairP fun a b => decide (a ≤ b)) = leCh (ds.map dayOf)
  | [] => rfl
  | [_] => rfl
  | x :: y :: r => by
    have ih := le_zip (y :: r)
    show (zipD (x :: y :: r) (y :: r)).all _ = _
    rw [zipD, List.all_cons]
    show (decide (dayOf x ≤ dayOf y) && (zipD (y :: r) ((y :: r).drop 1)).all _) = _
    rw [ih]; rfl
theorem sents_run (v : D) (days : Int) : F_are_sent.run [v, .int days] = some (.v (.bool (match v with
    | .tuple ds => decide (ds.length ≤ 5) && ds.all (sentB 1 days) && leCh (ds.map dayOf)
    | _ => false)), []) := by
  have tv := upto_run v 0 5
  rw [u_are_sent, x_run _ _ _ _ rfl, b_are_sent]
  cases v with
  | tuple ds =>
    by_cases hl : ds.length ≤ 5
    · have ht : tupB (.tuple ds) 0 5 = true := by (first | (simp (implicitDefEqProofs := false) [tupB]; done) | simp [tupB]); omega
      have lc : lcL [2] (gN [] 2) bYes q_are_sent_2 ds [some (.v (.tuple ds)), some (.v (.int days)), none, none, none] [] = some (ds.map fun x => .bool (sentB 1 days x), [some (.v (.tuple ds)), some (.v (.int days)), none, none, none]) := by
        refine lcL_map (fun x => .bool (sentB 1 days x)) (by omega) fun x hx => ?_
        exact ⟨[some (.v (.tuple ds)), some (.v (.int days)), some (.v x), none, none], _, .v (.bool (sentB 1 days x)), [some (.v (.tuple ds)), some (.v (.int days)), some (.v x), none, none], by simp, rfl, by (first | (simp (implicitDefEqProofs := false) [q_are_sent_2, sent_run]; done) | simp [q_are_sent_2, sent_run]), rfl, by simp⟩
      have al := all_bool (sentB 1 days) ds
      show _ = some (RV.v (PyData.bool (decide (ds.length ≤ 5) && ds.all (sentB 1 days) && leCh (ds.map dayOf))), [])
      cases h1 : ds.all (sentB 1 days) with
      | false =>
        rw [h1] at al
        (first | (simp (implicitDefEqProofs := false) [tv, ht, lc, al, hl]; done) | simp [tv, ht, lc, al, hl])
      | true =>
        rw [h1] at al
        have hs := List.all_eq_true.mp h1
        have z : zpD [.tuple ds, .tuple (ds.drop 1)] = some (zipD ds (ds.drop 1)) := rfl
        have lc2 : lcL [3, 4] (gTn 2 (gCons (gN [] 3) (gCons (gN [] 4) gNil))) bYes q_are_sent_1 (zipD ds (ds.drop 1)) [some (.v (.tuple ds)), some (.v (.int days)), none, none, none] [] = some ((zipD ds (ds.drop 1)).map fun x => .bool (pairP (fun a b => decide (a ≤ b)) x), [some (.v (.tuple ds)), some (.v (.int days)), none, none, none]) := by
          refine lcL_map (fun x => .bool (pairP (fun a b => decide (a ≤ b)) x)) (by rw [zipD_len]; omega) fun e he => ?_
          obtain ⟨x, y, rfl, h3, h4⟩ := zip_mem he
          have e1 := (sent_day (hs x h3)).1
          have e2 := (sent_day (hs y (List.mem_of_mem_drop h4))).1
          exact ⟨[some (.v (.tuple ds)), some (.v (.int days)), none, some (.v x), some (.v y)], _, .v (.bool (decide (dayOf x ≤ dayOf y))), [some (.v (.tuple ds)), some (.v (.int days)), none, some (.v x), some (.v y)], by simp, rfl, by (first | (simp (implicitDefEqProofs := false) [q_are_sent_1, e1, e2]; done) | simp [q_are_sent_1, e1, e2]), rfl, by simp⟩
        have al2 := all_bool (pairP fun a b => decide (a ≤ b)) (zipD ds (ds.drop 1))
        rw [le_zip] at al2
        (first | (simp (implicitDefEqProofs := false) [-List.drop_one, tv, ht, lc, al, hl, z, lc2, al2]; done) | simp [-List.drop_one, tv, ht, lc, al, hl, z, lc2, al2])
    · have ht : tupB (.tuple ds) 0 5 = false := by (first | (simp (implicitDefEqProofs := false) [tupB]; done) | simp [tupB]); omega
      (first | (simp (implicitDefEqProofs := false) [tv, ht, hl]; done) | simp [tv, ht, hl])
  | _ => (first | (simp (implicitDefEqProofs := false) [tv, tupB]; done) | simp [tv, tupB])
theorem lt_zip : ∀ L : List Int, (zipD (L.map .int) ((L.map .int).drop 1)).all (fun d => match d with
    | .tuple [.int i, .int j] => decide (i < j)
    | _ => false) = ltCh L
  | [] => rfl
  | [_] => rfl
  | x :: y :: r => by
    have ih := lt_zip (y :: r)
    show (zipD (.int x :: (y :: r).map .int) ((y :: r).map .int)).all _ = _
    rw [List.map_cons, zipD, List.all_cons]
    show (decide (x < y) && (zipD ((y :: r).map .int) (((y :: r).map .int).drop 1)).all _) = _
    rw [ih]; rfl
theorem rising_run (L : List Int) (hl : L.length ≤ 1000) : F_are_rising.run [.list (L.map .int)] = some (.v (.bool (ltCh L)), []) := by
  have z : zpD [.list (L.map .int), .list ((L.map .int).drop 1)] = some (zipD (L.map .int) ((L.map .int).drop 1)) := rfl
  have lc : lcL [1, 2] (gTn 2 (gCons (gN [] 1) (gCons (gN [] 2) gNil))) bYes q_are_rising_1 (zipD (L.map .int) ((L.map .int).drop 1)) [some (.v (.list (L.map .int))), none, none] [] = some ((zipD (L.map .int) ((L.map .int).drop 1)).map fun d => .bool (match d with
    | .tuple [.int i, .int j] => decide (i < j)
    | _ => false), [some (.v (.list (L.map .int))), none, none]) := by
    refine lcL_map _ (by rw [zipD_len, List.length_map]; omega) fun e he => ?_
    obtain ⟨x, y, rfl, h3, h4⟩ := zip_mem he
    obtain ⟨i, _, rfl⟩ := List.mem_map.mp h3
    obtain ⟨j, _, rfl⟩ := List.mem_map.mp (List.mem_of_mem_drop h4)
    exact ⟨[some (.v (.list (L.map .int))), some (.v (.int i)), some (.v (.int j))], _, .v (.bool (decide (i < j))), [some (.v (.list (L.map .int))), some (.v (.int i)), some (.v (.int j))], by simp, rfl, by (first | (simp (implicitDefEqProofs := false) [q_are_rising_1]; done) | simp [q_are_rising_1]), rfl, by simp⟩
  have al := all_bool (fun d : D => match d with
    | .tuple [.int i, .int j] => decide (i < j)
    | _ => false) (zipD (L.map .int) ((L.map .int).drop 1))
  rw [lt_zip] at al
  rw [u_are_rising, x_run _ _ _ _ rfl, b_are_rising]
  (first | (simp (implicitDefEqProofs := false) [-List.drop_one, -List.map_drop, z, lc, al]; done) | simp [-List.drop_one, -List.map_drop, z, lc, al])
theorem seens_run (v : D) {days : Int} (d0 : days ≤ 12) : F_are_seen.run [v, .int days] = some (.v (.bool (match v with
    | .tuple ds => decide ((ds.length : Int) ≤ days) && ds.all (seenB 1 days) && ltCh (ds.map dayOf)
    | _ => false)), []) := by
  have tv := upto_run v 0 days
  rw [u_are_seen, x_run _ _ _ _ rfl, b_are_seen]
  cases v with
  | tuple ds =>
    by_cases hl : (ds.length : Int) ≤ days
    · have ht : tupB (.tuple ds) 0 days = true := by (first | (simp (implicitDefEqProofs := false) [tupB]; done) | simp [tupB]); omega
      have lc : lcL [2] (gN [] 2) bYes q_are_seen_2 ds [some (.v (.tuple ds)), some (.v (.int days)), none] [] = some (ds.map fun x => .bool (seenB 1 days x), [some (.v (.tuple ds)), some (.v (.int days)), none]) := by
        refine lcL_map (fun x => .bool (seenB 1 days x)) (by omega) fun x hx => ?_
        exact ⟨[some (.v (.tuple ds)), some (.v (.int days)), some (.v x)], _, .v (.bool (seenB 1 days x)), [some (.v (.tuple ds)), some (.v (.int days)), some (.v x)], by simp, rfl, by (first | (simp (implicitDefEqProofs := false) [q_are_seen_2, seen_run]; done) | simp [q_are_seen_2, seen_run]), rfl, by simp⟩
      have al := all_bool (seenB 1 days) ds
      show _ = some (RV.v (PyData.bool (decide ((ds.length : Int) ≤ days) && ds.all (seenB 1 days) && ltCh (ds.map dayOf))), [])
      cases h1 : ds.all (seenB 1 days) with
      | false =>
        rw [h1] at al
        (first | (simp (implicitDefEqProofs := false) [tv, ht, lc, al, hl]; done) | simp [tv, ht, lc, al, hl])
      | true =>
        rw [h1] at al
        have hs := List.all_eq_true.mp h1
        have lc2 : lcL [2] (gN [] 2) bYes q_are_seen_1 ds [some (.v (.tuple ds)), some (.v (.int days)), none] [] = some (ds.map fun x => .int (dayOf x), [some (.v (.tuple ds)), some (.v (.int days)), none]) := by
          refine lcL_map (fun x => .int (dayOf x)) (by omega) fun x hx => ?_
          have e1 := (seen_day (hs x hx)).1
          exact ⟨[some (.v (.tuple ds)), some (.v (.int days)), some (.v x)], _, .v (.int (dayOf x)), [some (.v (.tuple ds)), some (.v (.int days)), some (.v x)], by simp, rfl, by (first | (simp (implicitDefEqProofs := false) [q_are_seen_1, e1]; done) | simp [q_are_seen_1, e1]), rfl, by simp⟩
        have rr := rising_run (ds.map dayOf) (by rw [List.length_map]; omega)
        rw [List.map_map] at rr
        have ee : (PyData.int ∘ dayOf) = fun x => .int (dayOf x) := rfl
        rw [ee] at rr
        (first | (simp (implicitDefEqProofs := false) [tv, ht, lc, al, hl, lc2, rr]; done) | simp [tv, ht, lc, al, hl, lc2, rr])
    · have ht : tupB (.tuple ds) 0 days = false := by (first | (simp (implicitDefEqProofs := false) [tupB]; done) | simp [tupB]); omega
      (first | (simp (implicitDefEqProofs := false) [tv, ht, hl]; done) | simp [tv, ht, hl])
  | _ => (first | (simp (implicitDefEqProofs := false) [tv, tupB]; done) | simp [tv, tupB])
end K18
namespace K18
open PySem PySem.Spec L2 Z
open PyProof.Rows hiding St

/-! ## views -/
def sentsB (days : Int) : D → Bool
  | .tuple ds => decide (ds.length ≤ 5) && ds.all (sentB 1 days) && leCh (ds.map dayOf)
  | _ => false
def seensB (days : Int) : D → Bool
  | .tuple ds => decide ((ds.length : Int) ≤ days) && ds.all (seenB 1 days) && ltCh (ds.map dayOf)
  | _ => false
theorem sents_any (v : D) (days : Int) : F_are_sent.run [v, .int days] = some (.v (.bool (sentsB days v)), []) := by
  rw [sents_run]; cases v <;> rfl
theorem seens_any (v : D) {days : Int} (d0 : days ≤ 12) : F_are_seen.run [v, .int days] = some (.v (.bool (seensB days v)), []) := by
  rw [seens_run v d0]; cases v <;> rfl
def viewB (r : Ru) : D → Bool
  | .tuple [h, f, .int n, s, e] => numB h 0 3 && lifeB r f && numB (.int n) 0 12 && sentsB n s && seensB n e
  | _ => false
theorem viewB_len {r : Ru} {ds : List D} (h : ds.length ≠ 5) : viewB r (.tuple ds) = false := by
  unfold viewB
  split
  · rename_i e; cases e; exact absurd rfl h
  · rfl
theorem viewB_no {r : Ru} {h f n s e : D} (q : numB n 0 12 = false) : viewB r (.tuple [h, f, n, s, e]) = false := by
  cases n with
  | int i => show (numB h 0 3 && lifeB r f && numB (.int i) 0 12 && sentsB i s && seensB i e) = false; rw [q]; simp
  | _ => rfl
theorem numB_int {n : D} {lo hi : Int} (h : numB n lo hi = true) : ∃ i, n = .int i ∧ lo ≤ i ∧ i ≤ hi := by
  cases n <;> first
    | (simp only [numB, decide_eq_true_eq] at h; exact ⟨_, rfl, h⟩)
    | cases h
theorem five {ds : List D} (h : ds.length = 5) : ∃ a b c d e, ds = [a, b, c, d, e] := match ds, h with
  | [a, b, c, d, e], _ => ⟨a, b, c, d, e, rfl⟩
theorem view_by_any (r : Ru) (hr : r.Ok) (v : D) : F_is_view_by.run [r.d, v] = some (.v (.bool (viewB r v)), []) := by
  have tv := tupof_run v 5
  rw [u_is_view_by, x_run _ _ _ _ rfl, b_is_view_by]
  cases ht : tupB v 5 5 with
  | false =>
    have : viewB r v = false := by
      cases v with
      | tuple ds => exact viewB_len fun h => Bool.false_ne_true (ht.symm.trans (tup_of (n := 5) h))
      | _ => rfl
    (first | (simp (implicitDefEqProofs := false) [tv, ht, this]; done) | simp [tv, ht, this])
  | true =>
    obtain ⟨ds, rfl, hl⟩ := tup_len (n := 5) ht
    obtain ⟨h, f, n, s, e, rfl⟩ := five hl
    have lf := life_any r hr f
    have hn := upto_any n 12
    cases h1 : numB n 0 12 with
    | false =>
      rw [h1] at hn
      rw [viewB_no h1]
      cases h2 : numB h 0 3 <;> cases h3 : lifeB r f <;> (first | (simp (implicitDefEqProofs := false) [tv, ht, house_any, lf, h2, h3, hn]; done) | simp [tv, ht, house_any, lf, h2, h3, hn])
    | true =>
      obtain ⟨i, rfl, a1, a2⟩ := numB_int h1
      rw [h1] at hn
      have pb : viewB r (.tuple [h, f, .int i, s, e]) = (numB h 0 3 && lifeB r f && numB (.int i) 0 12 && sentsB i s && seensB i e) := rfl
      rw [pb, h1]
      have sa := sents_any s i
      have se := seens_any e a2
      cases h2 : numB h 0 3 <;> cases h3 : lifeB r f <;> cases h4 : sentsB i s <;> (first | (simp (implicitDefEqProofs := false) [tv, ht, house_any, lf, h2, h3, hn, sa, se, h4]; done) | simp [tv, ht, house_any, lf, h2, h3, hn, sa, se, h4])
theorem planB_ok {r : Ru} (hr : r.Ok) : planB r.d = true := by
  have := hr.t1; have := hr.t2; have := hr.a1; have := hr.a2; have := hr.g1; have := hr.g2; have := hr.h1; have := hr.h2
  have := hr.w1; have := hr.w2; have := hr.l1; have := hr.l2; have := hr.k1; have := hr.k2
  show (numB (.int r.term) 1 9 && ([PyData.int r.add, .int r.grace, .int r.hold, .int r.wait, .int r.lock].all fun x => numB x 0 4) && numB (.int r.ask) 1 4 && truB (.bool r.silent)) = true
  simp only [List.all_cons, List.all_nil, numB, truB, Bool.and_eq_true, decide_eq_true_eq, and_true]
  omega
theorem check_run {r : Ru} (hr : r.Ok) : F_check_rules.run [r.d] = some (.v .none, []) := by
  have e := rules_any r.d
  rw [planB_ok hr] at e
  rw [u_check_rules, x_run _ _ _ _ rfl, b_check_rules]
  (first | (simp (implicitDefEqProofs := false) [e]; done) | simp [e])
end K18
namespace K18
open PySem PySem.Spec L2 Z
open PyProof.Rows hiding St

/-! ## the law's own turn and letters -/
theorem l_top_run (r : Ru) : F_l_top.run [r.d] = some (.v (.int r.top), []) := by
  rw [u_l_top, x_run _ _ _ _ rfl, b_l_top]
  by_cases h : r.add < r.lock
  · have : r.top = r.lock := by unfold Ru.top; omega
    (first | (simp (implicitDefEqProofs := false) [h, this]; done) | simp [h, this])
  · have : r.top = r.add := by unfold Ru.top; omega
    (first | (simp (implicitDefEqProofs := false) [h, this]; done) | simp [h, this])
theorem l_fallen_run (r : Ru) (h s : Int) (hs : s = 0 ∨ s = 1 ∨ s = 2) : F_l_fallen.run [r.d, .int h, .int s] = some (.v (if s = 0 then lapsS r h else if s = 1 then fallS r h else waitS r).d, []) := by
  rw [u_l_fallen, x_run _ _ _ _ rfl, b_l_fallen]
  rcases hs with rfl | rfl | rfl
  · by_cases c1 : 0 < r.grace <;> by_cases c2 : 0 < r.hold <;> by_cases c3 : 0 < r.wait <;> (first | (simp (decide := true) (implicitDefEqProofs := false) [forL, q_l_fallen_1, c1, c2, c3, lapsS, fallS, waitS, Li.d]; done) | simp (decide := true) [forL, q_l_fallen_1, c1, c2, c3, lapsS, fallS, waitS, Li.d])
  · by_cases c2 : 0 < r.hold <;> by_cases c3 : 0 < r.wait <;> (first | (simp (decide := true) (implicitDefEqProofs := false) [forL, q_l_fallen_1, c2, c3, fallS, waitS, Li.d]; done) | simp (decide := true) [forL, q_l_fallen_1, c2, c3, fallS, waitS, Li.d])
  · by_cases c3 : 0 < r.wait <;> (first | (simp (decide := true) (implicitDefEqProofs := false) [forL, q_l_fallen_1, c3, waitS, Li.d]; done) | simp (decide := true) [forL, q_l_fallen_1, c3, waitS, Li.d])
theorem l_turn_run {r : Ru} {x : Li} (hx : x.Ok r) : F_l_turn.run [r.d, x.d] = some (.v (x.turn r).d, []) := by
  have f0 := fun h => l_fallen_run r h 0 (.inl rfl)
  have f1 := fun h => l_fallen_run r h 1 (.inr (.inl rfl))
  have f2 := fun h => l_fallen_run r h 2 (.inr (.inr rfl))
  simp at f0 f1 f2
  have lt := l_top_run r
  rw [u_l_turn, x_run _ _ _ _ rfl, b_l_turn]
  cases x with
  | free => (first | (simp (decide := true) (implicitDefEqProofs := false) [Li.d, Li.turn]; done) | simp (decide := true) [Li.d, Li.turn])
  | wait n => by_cases c : 1 < n <;> (first | (simp (decide := true) (implicitDefEqProofs := false) [Li.d, Li.turn, c]; done) | simp (decide := true) [Li.d, Li.turn, c])
  | grace h n => by_cases c : 1 < n <;> (first | (simp (decide := true) (implicitDefEqProofs := false) [Li.d, Li.turn, c, f1]; done) | simp (decide := true) [Li.d, Li.turn, c, f1])
  | hold h n => by_cases c : 1 < n <;> (first | (simp (decide := true) (implicitDefEqProofs := false) [Li.d, Li.turn, c, f2]; done) | simp (decide := true) [Li.d, Li.turn, c, f2])
  | held h left age l c a =>
    obtain ⟨_, b1, b2, b3, b4, b5⟩ := hx
    have hm : min (age + 1) r.top = if age < r.top then age + 1 else age := by split <;> omega
    have c2 : left = 1 ∨ (¬ left = 1 ∧ 1 < left) := by omega
    cases a with
    | none =>
      by_cases c4 : age < r.top <;> rcases c2 with c2 | ⟨c2, c2'⟩
      all_goals first
        | (subst c2; (first | (simp (decide := true) (implicitDefEqProofs := false) [Li.d, askD, isN, Li.turn, endS, f0, lt, hm, c4]; done) | simp (decide := true) [Li.d, askD, isN, Li.turn, endS, f0, lt, hm, c4]); done)
        | ((first | (simp (decide := true) (implicitDefEqProofs := false) [Li.d, askD, isN, Li.turn, endS, lt, hm, c4, c2, c2']; done) | simp (decide := true) [Li.d, askD, isN, Li.turn, endS, lt, hm, c4, c2, c2']); done)
    | some p =>
      obtain ⟨g, n⟩ := p
      obtain ⟨d1, d2, d3, d4⟩ := b5
      have c1 : n = 1 ∨ (¬ n = 1 ∧ 1 < n) := by omega
      rcases c1 with c1 | ⟨c1, c1'⟩
      · subst c1
        by_cases c4 : age < r.top <;> cases c3 : r.silent <;> rcases c2 with c2 | ⟨c2, c2'⟩
        all_goals first
          | (subst c2; (first | (simp (decide := true) (implicitDefEqProofs := false) [Li.d, askD, isN, Li.turn, endS, f0, lt, hm, c4, c3]; done) | simp (decide := true) [Li.d, askD, isN, Li.turn, endS, f0, lt, hm, c4, c3]); done)
          | ((first | (simp (decide := true) (implicitDefEqProofs := false) [Li.d, askD, isN, Li.turn, endS, lt, hm, c4, c3, c2, c2']; done) | simp (decide := true) [Li.d, askD, isN, Li.turn, endS, lt, hm, c4, c3, c2, c2']); done)
      · by_cases c4 : age < r.top <;> rcases c2 with c2 | ⟨c2, c2'⟩
        all_goals first
          | (subst c2; (first | (simp (decide := true) (implicitDefEqProofs := false) [Li.d, askD, isN, Li.turn, endS, f0, lt, hm, c4, c1, c1']; done) | simp (decide := true) [Li.d, askD, isN, Li.turn, endS, f0, lt, hm, c4, c1, c1']); done)
          | ((first | (simp (decide := true) (implicitDefEqProofs := false) [Li.d, askD, isN, Li.turn, endS, lt, hm, c4, c1, c1', c2, c2']; done) | simp (decide := true) [Li.d, askD, isN, Li.turn, endS, lt, hm, c4, c1, c1', c2, c2']); done)
theorem l_held_run (r : Ru) (h left age : Int) (l c : Bool) (a : Option (Int × Int)) (g : Int) (e : Dd) : F_l_held.run [r.d, (Li.held h left age l c a).d, .int g, .str e.s] = some (.v (olD ((Li.held h left age l c a).done r g e)), []) := by
  have f1 := fun h => l_fallen_run r h 1 (.inr (.inl rfl))
  simp at f1
  rw [u_l_held, x_run _ _ _ _ rfl, b_l_held]
  have sw : (g = h) ↔ (h = g) := eq_comm
  by_cases q : h = g
  · subst q
    cases e
    case take => cases l <;> cases c <;> cases a <;> (first | (simp (decide := true) (implicitDefEqProofs := false) [Dd.s, Li.d, askD, isN, Li.done, olD]; done) | simp (decide := true) [Dd.s, Li.d, askD, isN, Li.done, olD])
    case renew => by_cases c1 : left ≤ r.term <;> (first | (simp (decide := true) (implicitDefEqProofs := false) [Dd.s, Li.d, Li.done, heldDone, olD, c1]; done) | simp (decide := true) [Dd.s, Li.d, Li.done, heldDone, olD, c1])
    case delete =>
      cases l with
      | true => (first | (simp (decide := true) (implicitDefEqProofs := false) [Dd.s, Li.d, Li.done, heldDone, olD]; done) | simp (decide := true) [Dd.s, Li.d, Li.done, heldDone, olD])
      | false =>
        cases a with
        | none => by_cases c1 : age < r.add <;> (first | (simp (decide := true) (implicitDefEqProofs := false) [Dd.s, Li.d, askD, isN, Li.done, heldDone, olD, c1, f1]; done) | simp (decide := true) [Dd.s, Li.d, askD, isN, Li.done, heldDone, olD, c1, f1])
        | some p => (first | (simp (decide := true) (implicitDefEqProofs := false) [Dd.s, Li.d, askD, isN, Li.done, heldDone, olD]; done) | simp (decide := true) [Dd.s, Li.d, askD, isN, Li.done, heldDone, olD])
    case agree => cases a <;> (first | (simp (decide := true) (implicitDefEqProofs := false) [Dd.s, Li.d, askD, isN, Li.done, heldDone, olD, x_inT, x_eqvS]; done) | simp (decide := true) [Dd.s, Li.d, askD, isN, Li.done, heldDone, olD, x_inT, x_eqvS])
    case refuse => cases a <;> (first | (simp (decide := true) (implicitDefEqProofs := false) [Dd.s, Li.d, askD, isN, Li.done, heldDone, olD, x_inT, x_eqvS]; done) | simp (decide := true) [Dd.s, Li.d, askD, isN, Li.done, heldDone, olD, x_inT, x_eqvS])
    case lock => cases a <;> (first | (simp (decide := true) (implicitDefEqProofs := false) [Dd.s, Li.d, askD, isN, Li.done, heldDone, olD, x_inT, x_eqvS]; done) | simp (decide := true) [Dd.s, Li.d, askD, isN, Li.done, heldDone, olD, x_inT, x_eqvS])
    all_goals (cases l <;> cases c <;> (first | (simp (decide := true) (implicitDefEqProofs := false) [Dd.s, Li.d, Li.done, heldDone, olD, x_inT, x_eqvS]; done) | simp (decide := true) [Dd.s, Li.d, Li.done, heldDone, olD, x_inT, x_eqvS]))
  · have q' : ¬ g = h := fun e => q e.symm
    cases e
    case take =>
      cases l <;> cases c <;> cases a <;> by_cases c1 : age < r.lock <;> (first | (simp (decide := true) (implicitDefEqProofs := false) [Dd.s, Li.d, askD, isN, Li.done, olD, q, q', c1]; done) | simp (decide := true) [Dd.s, Li.d, askD, isN, Li.done, olD, q, q', c1])
    all_goals (first | (simp (decide := true) (implicitDefEqProofs := false) [Dd.s, Li.d, Li.done, olD, q, q']; done) | simp (decide := true) [Dd.s, Li.d, Li.done, olD, q, q'])
theorem l_letter_run (r : Ru) (x : Li) (h : Int) (e : Dd) : F_l_letter.run [r.d, x.d, .int h, .str e.s] = some (.v (.tuple [((x.done r h e).getD x).d, ansD (x.done r h e)]), []) := by
  have f1 := fun h => l_fallen_run r h 1 (.inr (.inl rfl))
  simp at f1
  have lt := l_top_run r
  cases x with
  | held g left age l c a =>
    have hh := l_held_run r g left age l c a h e
    have hn := isN_ol ((Li.held g left age l c a).done r h e)
    rw [u_l_letter, x_run _ _ _ _ rfl, b_l_letter]
    generalize (Li.held g left age l c a).done r h e = o at hh hn ⊢
    cases o with
    | none => simp (decide := true) [Li.d, olD, ansD] at hh hn ⊢; (first | (simp (decide := true) (implicitDefEqProofs := false) [hh, x_inT, x_eqvS, isN]; done) | simp (decide := true) [hh, x_inT, x_eqvS, isN])
    | some y => simp (decide := true) [Li.d, olD, ansD] at hh hn ⊢; (first | (simp (decide := true) (implicitDefEqProofs := false) [hh, hn, x_inT, x_eqvS]; done) | simp (decide := true) [hh, hn, x_inT, x_eqvS])
  | free =>
    rw [u_l_letter, x_run _ _ _ _ rfl, b_l_letter]
    cases e <;> (first | (simp (decide := true) (implicitDefEqProofs := false) [Dd.s, Li.d, Li.done, olD, ansD, isN, x_inT, x_eqvS, askD]; done) | simp (decide := true) [Dd.s, Li.d, Li.done, olD, ansD, isN, x_inT, x_eqvS, askD])
  | wait n =>
    rw [u_l_letter, x_run _ _ _ _ rfl, b_l_letter]
    cases e <;> (first | (simp (decide := true) (implicitDefEqProofs := false) [Dd.s, Li.d, Li.done, olD, ansD, isN, x_inT, x_eqvS]; done) | simp (decide := true) [Dd.s, Li.d, Li.done, olD, ansD, isN, x_inT, x_eqvS])
  | grace g n =>
    rw [u_l_letter, x_run _ _ _ _ rfl, b_l_letter]
    by_cases q : g = h
    · subst q
      cases e
      case delete =>
        have hn : isN (fallS r g).d = false := by unfold fallS waitS; split <;> (try split) <;> rfl
        simp (decide := true) [Dd.s, Li.d, Li.done, olD, ansD, f1, x_inT, x_eqvS] at hn ⊢
        (first | (simp (decide := true) (implicitDefEqProofs := false) [hn]; done) | simp (decide := true) [hn])
      all_goals (first | (simp (decide := true) (implicitDefEqProofs := false) [Dd.s, Li.d, Li.done, olD, ansD, isN, lt, x_inT, x_eqvS, anew, askD]; done) | simp (decide := true) [Dd.s, Li.d, Li.done, olD, ansD, isN, lt, x_inT, x_eqvS, anew, askD])
    · cases e <;> (first | (simp (decide := true) (implicitDefEqProofs := false) [Dd.s, Li.d, Li.done, olD, ansD, isN, x_inT, x_eqvS, q]; done) | simp (decide := true) [Dd.s, Li.d, Li.done, olD, ansD, isN, x_inT, x_eqvS, q])
  | hold g n =>
    rw [u_l_letter, x_run _ _ _ _ rfl, b_l_letter]
    by_cases q : g = h
    · subst q
      cases e <;> (first | (simp (decide := true) (implicitDefEqProofs := false) [Dd.s, Li.d, Li.done, olD, ansD, isN, lt, x_inT, x_eqvS, anew, askD]; done) | simp (decide := true) [Dd.s, Li.d, Li.done, olD, ansD, isN, lt, x_inT, x_eqvS, anew, askD])
    · cases e <;> (first | (simp (decide := true) (implicitDefEqProofs := false) [Dd.s, Li.d, Li.done, olD, ansD, isN, x_inT, x_eqvS, q]; done) | simp (decide := true) [Dd.s, Li.d, Li.done, olD, ansD, isN, x_inT, x_eqvS, q])
theorem l_holder_run (x : Li) : F_l_holder.run [x.d] = some (.v (oiD x.holder), []) := by
  rw [u_l_holder, x_run _ _ _ _ rfl, b_l_holder]
  cases x <;> (first | (simp (decide := true) (implicitDefEqProofs := false) [Li.d, Li.holder, oiD, x_inT, x_eqvS]; done) | simp (decide := true) [Li.d, Li.holder, oiD, x_inT, x_eqvS])
end K18
namespace K18
open PySem PySem.Spec L2 Z
open PyProof.Rows hiding St

@[simp] theorem x_eApp (i : Nat) (f : ME) (ρ : Rho) : eApp i f ρ = match slot ρ i with
  | some (.list _) => (f ρ).bind fun r => match r.2[i]? with
    | some (some (.o (.list ds))) => if decide (ds.length < 16777216) then some (.v .none, r.2.set i (some (.o (.list (ds ++ [r.1.d]))))) else none
    | _ => none
  | _ => none := rfl
/-! ## rows of answered letters -/
def cameB : D → Bool
  | .tuple [a, b, c] => numB a 0 3 && strIn dds b && strIn ans c
  | _ => false
theorem cameB_len {ds : List D} (h : ds.length ≠ 3) : cameB (.tuple ds) = false := by
  unfold cameB
  split
  · rename_i e; cases e; exact absurd rfl h
  · rfl
theorem came_run (v : D) : F_is_came.run [v] = some (.v (.bool (cameB v)), []) := by
  have tv := tupof_run v 3
  rw [u_is_came, x_run _ _ _ _ rfl, b_is_came]
  cases ht : tupB v 3 3 with
  | false =>
    have : cameB v = false := by
      cases v with
      | tuple ds => exact cameB_len fun h => Bool.false_ne_true (ht.symm.trans (tup_of (n := 3) h))
      | _ => rfl
    (first | (simp (implicitDefEqProofs := false) [tv, ht, this]; done) | simp [tv, ht, this])
  | true =>
    obtain ⟨ds, rfl, hl⟩ := tup_len (n := 3) ht
    obtain ⟨a, b, c, rfl⟩ := three hl
    have nb := named_in dds b
    have nc := named_in ans c
    rw [← dds_c] at nb
    have e : (PyData.tuple [.str "done", .str "refused"] : D) = .tuple (ans.map .str) := rfl
    have pb : cameB (.tuple [a, b, c]) = (numB a 0 3 && strIn dds b && strIn ans c) := rfl
    rw [pb]
    cases h1 : numB a 0 3 <;> cases h2 : strIn dds b <;> (first | (simp (implicitDefEqProofs := false) [-List.map_cons, -List.map_nil, tv, ht, house_any, nb, h1, h2, e, nc]; done) | simp [-List.map_cons, -List.map_nil, tv, ht, house_any, nb, h1, h2, e, nc])
def deOf (z : Str) : Option Dd :=
  if z = "create" then some .create else if z = "renew" then some .renew else if z = "redeem" then some .redeem else if z = "delete" then some .delete else if z = "lock" then some .lock
  else if z = "unlock" then some .unlock else if z = "code" then some .code else if z = "take" then some .take else if z = "guess" then some .guess else if z = "agree" then some .agree else if z = "refuse" then some .refuse else none
theorem de_s (e : Dd) : deOf e.s = some e := by cases e <;> rfl
theorem dd_of {b : D} (h : strIn dds b = true) : ∃ e : Dd, b = .str e.s := by
  cases b with
  | str z =>
    obtain ⟨w, hw, e⟩ := List.any_eq_true.mp (show (dds.any fun w => decide (w = z)) = true from h)
    have e := of_decide_eq_true e
    subst e
    simp only [dds, List.mem_cons, List.not_mem_nil, or_false] at hw
    rcases hw with rfl | rfl | rfl | rfl | rfl | rfl | rfl | rfl | rfl | rfl | rfl
    · exact ⟨.create, rfl⟩
    · exact ⟨.renew, rfl⟩
    · exact ⟨.redeem, rfl⟩
    · exact ⟨.delete, rfl⟩
    · exact ⟨.lock, rfl⟩
    · exact ⟨.unlock, rfl⟩
    · exact ⟨.code, rfl⟩
    · exact ⟨.take, rfl⟩
    · exact ⟨.guess, rfl⟩
    · exact ⟨.agree, rfl⟩
    · exact ⟨.refuse, rfl⟩
  | _ => cases h
def ansS (b : Bool) : Str := if b = true then "done" else "refused"
theorem came_get {d : D} (h : cameB d = true) : ∃ (i : Int) (e : Dd) (t : Str), d = .tuple [.int i, .str e.s, .str t] ∧ House i := by
  unfold cameB at h
  split at h
  · rename_i a b c
    simp only [Bool.and_eq_true] at h
    obtain ⟨i, rfl, a1, a2⟩ := numB_int h.1.1
    obtain ⟨e, rfl⟩ := dd_of h.1.2
    cases c with
    | str t => exact ⟨i, e, t, rfl, a1, a2⟩
    | _ => exact absurd h.2 Bool.false_ne_true
  · cases h
/-- a letter: the life behind it, if the answer is the right one -/
def letL (r : Ru) (x : Li) : D → Option Li
  | .tuple [.int h, .str z, .str t] => (deOf z).bind fun e => if t = ansS (x.done r h e).isSome then some ((x.done r h e).getD x) else none
  | _ => none
theorem letL_eq (r : Ru) (x : Li) (h : Int) (e : Dd) (t : Str) : letL r x (.tuple [.int h, .str e.s, .str t]) = if t = ansS (x.done r h e).isSome then some ((x.done r h e).getD x) else none := by
  show ((deOf e.s).bind fun e => if t = ansS (x.done r h e).isSome then some ((x.done r h e).getD x) else none) = _
  rw [de_s]; rfl
def rowL (r : Ru) : List D → Li → Option Li
  | [], x => some x
  | d :: ds, x => (letL r x d).bind (rowL r ds)
def itemsOf : D → List D
  | .tuple ds => ds
  | _ => []
def alongL (r : Ru) : List D → Li → Option Li
  | [], x => some x
  | d :: ds, x => (rowL r (itemsOf d) (x.turn r)).bind (alongL r ds)
theorem ans_eq (o : Option Li) : ansD o = .str (ansS o.isSome) := rfl
theorem behind_loop (r : Ru) (A B : Option RV) : ∀ (ds : List D) (x : Li) (o4 o5 o6 o7 : Option RV), ds.all cameB = true →
    (∃ (y : Li) (t4 t5 t6 t7 : Option RV), rowL r ds x = some y ∧ forL (gTn 3 (gCons (gN [] 4) (gCons (gN [] 5) (gCons (gN [] 6) gNil)))) q_life_behind_day_1 ds [some (.v r.d), A, B, some (.v x.d), o4, o5, o6, o7] = some (.nx, [some (.v r.d), A, B, some (.v y.d), t4, t5, t6, t7])) ∨
    (rowL r ds x = none ∧ ∃ ρ', forL (gTn 3 (gCons (gN [] 4) (gCons (gN [] 5) (gCons (gN [] 6) gNil)))) q_life_behind_day_1 ds [some (.v r.d), A, B, some (.v x.d), o4, o5, o6, o7] = some (.rt (.v .none), ρ'))
  | [], x, o4, o5, o6, o7, _ => .inl ⟨x, o4, o5, o6, o7, rfl, rfl⟩
  | d :: ds, x, o4, o5, o6, o7, h => by
    rw [List.all_cons, Bool.and_eq_true] at h
    obtain ⟨i, e, t, rfl, hi⟩ := came_get h.1
    have ha := answered_by_run r x i e
    rw [ans_eq] at ha
    have g : gTn 3 (gCons (gN [] 4) (gCons (gN [] 5) (gCons (gN [] 6) gNil))) (.tuple [.int i, .str e.s, .str t]) [some (.v r.d), A, B, some (.v x.d), o4, o5, o6, o7] = some [some (.v r.d), A, B, some (.v x.d), some (.v (.int i)), some (.v (.str e.s)), some (.v (.str t)), o7] := rfl
    rw [rowL, letL_eq]
    unfold forL
    rw [g, Option.bind_some]
    generalize (x.done r i e).getD x = y at ha ⊢
    generalize (x.done r i e).isSome = b at ha ⊢
    by_cases c : t = ansS b
    · subst c
      have body : q_life_behind_day_1 [some (.v r.d), A, B, some (.v x.d), some (.v (.int i)), some (.v (.str e.s)), some (.v (.str (ansS b))), o7] = some (.nx, [some (.v r.d), A, B, some (.v y.d), some (.v (.int i)), some (.v (.str e.s)), some (.v (.str (ansS b))), some (.v (.str (ansS b)))]) := by
        (first | (simp (implicitDefEqProofs := false) [q_life_behind_day_1, ha]; done) | simp [q_life_behind_day_1, ha])
      rw [if_pos rfl, body]
      exact behind_loop r A B ds y _ _ _ _ h.2
    · have c' : ¬ ansS b = t := fun e => c e.symm
      have body : q_life_behind_day_1 [some (.v r.d), A, B, some (.v x.d), some (.v (.int i)), some (.v (.str e.s)), some (.v (.str t)), o7] = some (.rt (.v .none), [some (.v r.d), A, B, some (.v y.d), some (.v (.int i)), some (.v (.str e.s)), some (.v (.str t)), some (.v (.str (ansS b)))]) := by
        (first | (simp (implicitDefEqProofs := false) [q_life_behind_day_1, ha, c']; done) | simp [q_life_behind_day_1, ha, c'])
      rw [if_neg c, body]
      exact .inr ⟨rfl, _, rfl⟩
theorem behind_run (r : Ru) (x : Li) {ds : List D} (h : ds.all cameB = true) : F_life_behind_day.run [r.d, x.d, .tuple ds] = some (.v (olD (rowL r ds (x.turn r))), []) := by
  have ht := turned_by_run r x
  rw [u_life_behind_day, x_run _ _ _ _ rfl, b_life_behind_day]
  rcases behind_loop r (some (.v x.d)) (some (.v (.tuple ds))) ds (x.turn r) none none none none h with ⟨y, t4, t5, t6, t7, e1, e2⟩ | ⟨e1, ρ', e2⟩
  · rw [e1]; (first | (simp (implicitDefEqProofs := false) [ht, e2, olD]; done) | simp [ht, e2, olD])
  · rw [e1]; (first | (simp (implicitDefEqProofs := false) [ht, e2, olD]; done) | simp [ht, e2, olD])
theorem isN_li (x : Li) : isN x.d = false := by cases x <;> rfl
theorem last_ix (pre : List D) (d : D) : ixD (.list (pre ++ [d])) (.int (-1)) = some (.v d) := by simp
theorem along_loop (r : Ru) (A B : Option RV) : ∀ (ds : List D) (x : Li) (pre : List Li) (o4 o5 : Option RV), (ds.all fun d => (itemsOf d).all cameB) = true → (∀ d ∈ ds, ∃ es, d = .tuple es) → pre.length + ds.length ≤ 1000 →
    (∃ (y : Li) (ls : List Li) (t4 t5 : Option RV), alongL r ds x = some y ∧ forL (gN [] 4) q_lives_along_1 ds [some (.v r.d), A, B, some (.o (.list (pre.map Li.d ++ [x.d]))), o4, o5] = some (.nx, [some (.v r.d), A, B, some (.o (.list (ls.map Li.d ++ [y.d]))), t4, t5]) ∧ ls.length ≤ 1000) ∨
    (alongL r ds x = none ∧ ∃ ρ', forL (gN [] 4) q_lives_along_1 ds [some (.v r.d), A, B, some (.o (.list (pre.map Li.d ++ [x.d]))), o4, o5] = some (.rt (.o (.list [])), ρ'))
  | [], x, pre, o4, o5, _, _, hl => .inl ⟨x, pre, o4, o5, rfl, rfl, by simpa using hl⟩
  | d :: ds, x, pre, o4, o5, h, ht, hl => by
    rw [List.all_cons, Bool.and_eq_true] at h
    rw [List.length_cons] at hl
    obtain ⟨es, rfl⟩ := ht d List.mem_cons_self
    have hb := behind_run r x (ds := es) h.1
    have li := last_ix (pre.map Li.d) x.d
    have g : gN [] 4 (.tuple es) [some (.v r.d), A, B, some (.o (.list (pre.map Li.d ++ [x.d]))), o4, o5] = some [some (.v r.d), A, B, some (.o (.list (pre.map Li.d ++ [x.d]))), some (.v (.tuple es)), o5] := rfl
    rw [alongL]
    unfold forL
    rw [g, Option.bind_some]
    show (∃ (y : Li) (ls : List Li) (t4 t5 : Option RV), (rowL r es (x.turn r)).bind (alongL r ds) = some y ∧ _) ∨ ((rowL r es (x.turn r)).bind (alongL r ds) = none ∧ _)
    cases q : rowL r es (x.turn r) with
    | none =>
      rw [q] at hb
      have body : ∃ ρ', q_lives_along_1 [some (.v r.d), A, B, some (.o (.list (pre.map Li.d ++ [x.d]))), some (.v (.tuple es)), o5] = some (.rt (.o (.list [])), ρ') := ⟨[some (.v r.d), A, B, some (.o (.list (pre.map Li.d ++ [x.d]))), some (.v (.tuple es)), some (.v .none)], by (first | (simp (implicitDefEqProofs := false) [-x_ixL, q_lives_along_1, li, hb, olD, isN]; done) | simp [-x_ixL, q_lives_along_1, li, hb, olD, isN])⟩
      obtain ⟨ρ', body⟩ := body
      rw [body]
      exact .inr ⟨rfl, ρ', rfl⟩
    | some y =>
      rw [q] at hb
      have lt : (pre.map Li.d ++ [x.d]).length < 16777216 := by rw [List.length_append, List.length_map, List.length_singleton]; omega
      have e2 : pre.map Li.d ++ [x.d] = (pre ++ [x]).map Li.d := by rw [List.map_append]; rfl
      have body : q_lives_along_1 [some (.v r.d), A, B, some (.o (.list (pre.map Li.d ++ [x.d]))), some (.v (.tuple es)), o5] = some (.nx, [some (.v r.d), A, B, some (.o (.list ((pre ++ [x]).map Li.d ++ [y.d]))), some (.v (.tuple es)), some (.v y.d)]) := by
        rw [← e2]
        generalize hp : pre.map Li.d ++ [x.d] = found at li lt ⊢
        (first | (simp (implicitDefEqProofs := false) [-x_ixL, q_lives_along_1, li, hb, olD, isN_li, lt]; done) | simp [-x_ixL, q_lives_along_1, li, hb, olD, isN_li, lt])
      rw [body]
      exact along_loop r A B ds y (pre ++ [x]) _ _ h.2 (fun d hd => ht d (List.mem_cons_of_mem _ hd)) (by rw [List.length_append, List.length_singleton]; omega)
end K18
namespace K18
open PySem PySem.Spec L2 Z
open PyProof.Rows hiding St

/-! ## comprehensions of two clauses -/
theorem lcL_acc {vs : List Nat} {g : SG} {t : MB} {f : ME} {ρ0 : Rho} (h : D → D) : ∀ (ds acc : List D), acc.length + ds.length ≤ 16777216 → (∀ d ∈ ds, ∃ ρ1 ρ2 rv ρ3, g d ρ0 = some ρ1 ∧ t ρ1 = some (true, ρ2) ∧ f ρ2 = some (rv, ρ3) ∧ rv.d = h d ∧ wipeR ρ3 vs = ρ0) →
    lcL vs g t f ds ρ0 acc = some (acc ++ ds.map h, ρ0)
  | [], acc, _, _ => by unfold lcL; rw [List.map_nil, List.append_nil]
  | d :: ds, acc, hl, st => by
    obtain ⟨ρ1, ρ2, rv, ρ3, h1, h2, h3, h4, h5⟩ := st d List.mem_cons_self
    rw [List.length_cons] at hl
    unfold lcL
    rw [h1, Option.bind_some, h2, Option.bind_some]
    simp only [if_true, h3, Option.bind_some, decide_eq_true (show acc.length < 16777216 by omega), h4, h5]
    rw [lcL_acc h ds (acc ++ [h d]) (by rw [List.length_append, List.length_singleton]; omega) fun e he => st e (List.mem_cons_of_mem _ he)]
    rw [List.map_cons, List.append_assoc]; rfl
theorem lcL2_acc {vs vs1 : List Nat} {g g1 : SG} {t t1 : MB} {fi1 : MIt} {f : ME} {ρ0 : Rho} (h : D → D) (its : D → List D) : ∀ (ds acc : List D), acc.length + (ds.flatMap its).length ≤ 16777216 →
    (∀ d ∈ ds, ∃ ρ1 ρ2 ρ3, g d ρ0 = some ρ1 ∧ t ρ1 = some (true, ρ2) ∧ fi1 ρ2 = some (its d, ρ3) ∧ wipeR (wipeR ρ3 vs1) vs = ρ0 ∧ ∀ e ∈ its d, ∃ σ1 σ2 rv σ3, g1 e (wipeR ρ3 vs1) = some σ1 ∧ t1 σ1 = some (true, σ2) ∧ f σ2 = some (rv, σ3) ∧ rv.d = h e ∧ wipeR σ3 vs1 = wipeR ρ3 vs1) →
    lcL2 vs vs1 g t fi1 g1 t1 f ds ρ0 acc = some (acc ++ (ds.flatMap its).map h, ρ0)
  | [], acc, _, _ => by unfold lcL2; simp
  | d :: ds, acc, hl, st => by
    obtain ⟨ρ1, ρ2, ρ3, h1, h2, h3, h4, h5⟩ := st d List.mem_cons_self
    rw [List.flatMap_cons, List.length_append] at hl
    have inner := lcL_acc (vs := vs1) (g := g1) (t := t1) (f := f) (ρ0 := wipeR ρ3 vs1) h (its d) acc (by omega) h5
    unfold lcL2
    rw [h1, Option.bind_some, h2, Option.bind_some]
    simp only [if_true, h3, Option.bind_some, inner, h4]
    rw [lcL2_acc h its ds (acc ++ (its d).map h) (by rw [List.length_append, List.length_map]; omega) fun e he => st e (List.mem_cons_of_mem _ he)]
    rw [List.flatMap_cons, List.map_append, List.append_assoc]
/-! ## truths -/
def isT : D → Bool
  | .tuple _ => true
  | _ => false
theorem isi_T (d : D) : isiD ["tuple"] d = isT d := by cases d <;> rfl
def truthB (r : Ru) (x : Li) (n : Int) : D → Bool
  | .tuple rows => decide ((rows.length : Int) = n) && (rows.all isT && (rows.all (fun d => (itemsOf d).all cameB) && (alongL r rows x).isSome))
  | _ => false
theorem nd_lives : ∀ ls : List Li, noDicts (ls.map Li.d) = true
  | [] => rfl
  | x :: ls => by
    show (noDict x.d && noDicts (ls.map Li.d)) = true
    rw [nd_lives ls, Bool.and_true]
    cases x with
    | held h left age l c a => cases a <;> rfl
    | _ => rfl
theorem dp_life (x : Li) : x.d.depth ≤ 5 := by
  cases x with
  | held h left age l c a => cases a <;> ((first | (simp (implicitDefEqProofs := false) [Li.d, askD, PyData.depth, PyData.depthAll]; done) | simp [Li.d, askD, PyData.depth, PyData.depthAll]); try omega)
  | _ => ((first | (simp (implicitDefEqProofs := false) [Li.d, PyData.depth, PyData.depthAll]; done) | simp [Li.d, PyData.depth, PyData.depthAll]); try omega)
theorem dp_lives : ∀ ls : List Li, PyData.depthAll (ls.map Li.d) ≤ 5
  | [] => by rw [List.map_nil, PyData.depthAll]; omega
  | x :: ls => by
    have := dp_lives ls
    have := dp_life x
    rw [List.map_cons, PyData.depthAll]
    omega
theorem ok_lives (ls : List Li) : okE (.list (ls.map Li.d)) = true := by
  have a := nd_lives ls
  have b := dp_lives ls
  unfold okE
  rw [Bool.and_eq_true]
  refine ⟨a, decide_eq_true ?_⟩
  rw [PyData.depth]
  omega
theorem ne_lives (ls : List Li) : neD (.list (ls.map Li.d)) (.list []) = some (.v (.bool (!ls.isEmpty))) := by
  unfold neD
  rw [ok_lives]
  cases ls with
  | nil => rfl
  | cons x ls => show bl (!PyData.eqv (.list (x.d :: ls.map Li.d)) (.list [])) = _; unfold PyData.eqv PyData.eqvAll; rfl
theorem lives_run (r : Ru) (x : Li) {view : D} (v1 : ixD view (.int 1) = some (.v x.d)) {rows : List D} (h1 : rows.all isT = true) (h2 : (rows.all fun d => (itemsOf d).all cameB) = true) (hl : rows.length ≤ 900) :
    ∃ ls : List Li, F_lives_along.run [r.d, view, .tuple rows] = some (.o (.list (ls.map Li.d)), []) ∧ (!ls.isEmpty) = (alongL r rows x).isSome := by
  have ht : ∀ d ∈ rows, ∃ es, d = .tuple es := fun d hd => by
    have := List.all_eq_true.mp h1 d hd
    cases d <;> first
      | exact ⟨_, rfl⟩
      | cases this
  rcases along_loop r (some (.v view)) (some (.v (.tuple rows))) rows x [] none none h2 ht (by simp; omega) with ⟨y, ls, t4, t5, e1, e2, e3⟩ | ⟨e1, ρ', e2⟩
  · refine ⟨ls ++ [y], ?_, by rw [e1]; simp⟩
    have e2 : forL (gN [] 4) q_lives_along_1 rows [some (.v r.d), some (.v view), some (.v (.tuple rows)), some (.o (.list [x.d])), none, none] = some (.nx, [some (.v r.d), some (.v view), some (.v (.tuple rows)), some (.o (.list (ls.map Li.d ++ [y.d]))), t4, t5]) := e2
    have e4 : (ls ++ [y]).map Li.d = ls.map Li.d ++ [y.d] := by rw [List.map_append]; rfl
    rw [e4, u_lives_along, x_run _ _ _ _ rfl, b_lives_along]
    (first | (simp (implicitDefEqProofs := false) [v1, e2]; done) | simp [v1, e2])
  · refine ⟨[], ?_, by rw [e1]; rfl⟩
    have e2 : forL (gN [] 4) q_lives_along_1 rows [some (.v r.d), some (.v view), some (.v (.tuple rows)), some (.o (.list [x.d])), none, none] = some (.rt (.o (.list [])), ρ') := e2
    rw [u_lives_along, x_run _ _ _ _ rfl, b_lives_along]
    (first | (simp (implicitDefEqProofs := false) [v1, e2]; done) | simp [v1, e2])
/-- a value that is not too wide -/
def Nar (v : D) : Prop := ((itemsOf v).flatMap itemsOf).length ≤ 1000000
theorem truth_by_run (r : Ru) (x : Li) {view : D} {n : Int} (v1 : ixD view (.int 1) = some (.v x.d)) (v2 : ixD view (.int 2) = some (.v (.int n))) (hn : n ≤ 12) (v : D) (hv : Nar v) :
    F_is_truth_by.run [r.d, view, v] = some (.v (.bool (truthB r x n v)), []) := by
  have tv := tupof_run v n
  rw [u_is_truth_by, x_run _ _ _ _ rfl, b_is_truth_by]
  cases v with
  | tuple rows =>
    by_cases hl : (rows.length : Int) = n
    · have ht : tupB (.tuple rows) n n = true := by unfold tupB; simp; omega
      have lc : lcL [3] (gN [] 3) bYes q_is_truth_by_2 rows [some (.v r.d), some (.v view), some (.v (.tuple rows)), none, none] [] = some (rows.map fun x => .bool (isT x), [some (.v r.d), some (.v view), some (.v (.tuple rows)), none, none]) := by
        refine lcL_map (fun x => .bool (isT x)) (by omega) fun e he => ?_
        exact ⟨[some (.v r.d), some (.v view), some (.v (.tuple rows)), some (.v e), none], _, .v (.bool (isT e)), [some (.v r.d), some (.v view), some (.v (.tuple rows)), some (.v e), none], by simp, rfl, by (first | (simp (implicitDefEqProofs := false) [q_is_truth_by_2, isi_T]; done) | simp [q_is_truth_by_2, isi_T]), rfl, by simp⟩
      have al := all_bool isT rows
      show _ = some (RV.v (PyData.bool (decide ((rows.length : Int) = n) && (rows.all isT && (rows.all (fun d => (itemsOf d).all cameB) && (alongL r rows x).isSome)))), [])
      cases h1 : rows.all isT with
      | false =>
        rw [h1] at al
        (first | (simp (implicitDefEqProofs := false) [v2, tv, ht, lc, al, hl]; done) | simp [v2, tv, ht, lc, al, hl])
      | true =>
        rw [h1] at al
        have hT := List.all_eq_true.mp h1
        have lc2 : lcL2 [3, 4] [4] (gN [] 3) bYes (iSeq (eVar 3)) (gN [] 4) bYes q_is_truth_by_1 rows [some (.v r.d), some (.v view), some (.v (.tuple rows)), none, none] [] = some ((rows.flatMap itemsOf).map (fun x => .bool (cameB x)), [some (.v r.d), some (.v view), some (.v (.tuple rows)), none, none]) := by
          refine lcL2_acc (fun x => .bool (cameB x)) itemsOf rows [] (by have : (rows.flatMap itemsOf).length ≤ 1000000 := hv; simp; simp at this; omega) fun d hd => ?_
          have hd := hT d hd
          cases d with
          | tuple es =>
            refine ⟨[some (.v r.d), some (.v view), some (.v (.tuple rows)), some (.v (.tuple es)), none], _, [some (.v r.d), some (.v view), some (.v (.tuple rows)), some (.v (.tuple es)), none], by simp, rfl, by (first | (simp (implicitDefEqProofs := false) [itemsOf]; done) | simp [itemsOf]), by simp, fun e he => ?_⟩
            have cr := came_run e
            exact ⟨[some (.v r.d), some (.v view), some (.v (.tuple rows)), some (.v (.tuple es)), some (.v e)], _, .v (.bool (cameB e)), [some (.v r.d), some (.v view), some (.v (.tuple rows)), some (.v (.tuple es)), some (.v e)], by simp, rfl, by (first | (simp (implicitDefEqProofs := false) [q_is_truth_by_1, cr]; done) | simp [q_is_truth_by_1, cr]), rfl, by simp⟩
          | _ => cases hd
        have al2 := all_bool cameB (rows.flatMap itemsOf)
        rw [List.all_flatMap] at al2
        cases h2 : rows.all (fun d => (itemsOf d).all cameB) with
        | false =>
          rw [h2] at al2
          (first | (simp (implicitDefEqProofs := false) [-List.map_flatMap, v2, tv, ht, lc, al, hl, lc2, al2]; done) | simp [-List.map_flatMap, v2, tv, ht, lc, al, hl, lc2, al2])
        | true =>
          rw [h2] at al2
          obtain ⟨ls, l1, l2⟩ := lives_run r x v1 h1 h2 (by omega)
          have nl := ne_lives ls
          rw [l2] at nl
          (first | (simp (implicitDefEqProofs := false) [-List.map_flatMap, v2, tv, ht, lc, al, hl, lc2, al2, l1, nl]; done) | simp [-List.map_flatMap, v2, tv, ht, lc, al, hl, lc2, al2, l1, nl])
    · have ht : tupB (.tuple rows) n n = false := by unfold tupB; simp; omega
      (first | (simp (implicitDefEqProofs := false) [v2, tv, ht, truthB, hl]; done) | simp [v2, tv, ht, truthB, hl])
  | _ => (first | (simp (implicitDefEqProofs := false) [v2, tv, tupB, truthB]; done) | simp [v2, tv, tupB, truthB])
end K18
namespace K18
open PySem PySem.Spec L2 Z
open PyProof.Rows hiding St

/-! ## the law's own truth -/
theorem ldeed_any (x : D) : F_l_is_deed.run [x] = some (.v (.bool (strIn dds x)), []) := by
  have e : (PyData.tuple [.str "create", .str "renew", .str "redeem", .str "delete", .str "lock", .str "unlock", .str "code", .str "take", .str "guess", .str "agree", .str "refuse"] : D) = .tuple (dds.map .str) := rfl
  rw [u_l_is_deed, x_run _ _ _ _ rfl, b_l_is_deed]
  cases x with
  | str z => (first | (simp (implicitDefEqProofs := false) [-List.map_cons, -List.map_nil, e, in_str]; done) | simp [-List.map_cons, -List.map_nil, e, in_str])
  | _ => (first | (simp (implicitDefEqProofs := false) [-List.map_cons, -List.map_nil, e, strIn]; done) | simp [-List.map_cons, -List.map_nil, e, strIn])
theorem ans_in (b : Bool) : strIn ans (.str (ansS b)) = true := by cases b <;> rfl
theorem letL_ok {r : Ru} (hr : r.Ok) {x y : Li} (hx : x.Ok r) {d : D} (hd : cameB d = true) (q : letL r x d = some y) : y.Ok r := by
  obtain ⟨i, e, t, rfl, hi⟩ := came_get hd
  rw [letL_eq] at q
  split at q
  · cases q
    cases w : x.done r i e with
    | none => exact hx
    | some z => exact done_ok hr hx hi w
  · cases q
theorem own_step {r : Ru} (hr : r.Ok) (V W L o6 : Option RV) (x : Li) (d : D) :
    (∃ (y : Li) (t6 : Option RV), cameB d = true ∧ letL r x d = some y ∧ q_l_is_truth_1 [some (.v r.d), V, W, some (.v x.d), L, some (.v d), o6] = some (.nx, [some (.v r.d), V, W, some (.v y.d), L, some (.v d), t6])) ∨
    ((cameB d = false ∨ letL r x d = none) ∧ ∃ ρ', q_l_is_truth_1 [some (.v r.d), V, W, some (.v x.d), L, some (.v d), o6] = some (.rt (.v (.bool false)), ρ')) := by
  cases d with
  | tuple ds =>
    by_cases hl : ds.length = 3
    · obtain ⟨a, b, c, rfl⟩ := three hl
      have la := lnum_any a 0 3
      have lb := ldeed_any b
      have pb : cameB (.tuple [a, b, c]) = (numB a 0 3 && strIn dds b && strIn ans c) := rfl
      cases h1 : numB a 0 3 with
      | false => exact .inr ⟨.inl (by rw [pb, h1]; rfl), [some (.v r.d), V, W, some (.v x.d), L, some (.v (.tuple [a, b, c])), o6], by (first | (simp (implicitDefEqProofs := false) [q_l_is_truth_1, la, h1]; done) | simp [q_l_is_truth_1, la, h1])⟩
      | true =>
        obtain ⟨i, rfl, a1, a2⟩ := numB_int h1
        cases h2 : strIn dds b with
        | false => exact .inr ⟨.inl (by rw [pb, h2, Bool.and_false]; rfl), [some (.v r.d), V, W, some (.v x.d), L, some (.v (.tuple [.int i, b, c])), o6], by (first | (simp (implicitDefEqProofs := false) [q_l_is_truth_1, la, h1, lb, h2]; done) | simp [q_l_is_truth_1, la, h1, lb, h2])⟩
        | true =>
          obtain ⟨e, rfl⟩ := dd_of h2
          cases c with
          | str t =>
            have ll := l_letter_run r x i e
            rw [ans_eq] at ll
            have le := letL_eq r x i e t
            generalize (x.done r i e).getD x = y at ll le
            generalize (x.done r i e).isSome = bb at ll le
            by_cases c : t = ansS bb
            · subst c
              refine .inl ⟨y, some (.v (.str (ansS bb))), by rw [pb, h1, h2, ans_in]; rfl, by rw [le, if_pos rfl], ?_⟩
              (first | (simp (implicitDefEqProofs := false) [q_l_is_truth_1, la, h1, lb, h2, ll]; done) | simp [q_l_is_truth_1, la, h1, lb, h2, ll])
            · refine .inr ⟨.inr (by rw [le, if_neg c]), [some (.v r.d), V, W, some (.v y.d), L, some (.v (.tuple [.int i, .str e.s, .str t])), some (.v (.str (ansS bb)))], ?_⟩
              (first | (simp (implicitDefEqProofs := false) [q_l_is_truth_1, la, h1, lb, h2, ll, c]; done) | simp [q_l_is_truth_1, la, h1, lb, h2, ll, c])
          | _ => exact .inr ⟨.inl (by rw [pb, h1, h2]; rfl), _, by (first | (simp (implicitDefEqProofs := false) [q_l_is_truth_1, la, h1, lb, h2]; done) | simp [q_l_is_truth_1, la, h1, lb, h2]); rfl⟩
    · have hl' : ¬ ((ds.length : Int) = 3) := by omega
      exact .inr ⟨.inl (cameB_len hl), [some (.v r.d), V, W, some (.v x.d), L, some (.v (.tuple ds)), o6], by (first | (simp (implicitDefEqProofs := false) [q_l_is_truth_1, hl']; done) | simp [q_l_is_truth_1, hl'])⟩
  | _ => exact .inr ⟨.inl rfl, _, by (first | (simp (implicitDefEqProofs := false) [q_l_is_truth_1]; done) | simp [q_l_is_truth_1]); rfl⟩
theorem own_row {r : Ru} (hr : r.Ok) (V W L : Option RV) : ∀ (ds : List D) (x : Li) (o5 o6 : Option RV), x.Ok r →
    (∃ (y : Li) (t5 t6 : Option RV), ds.all cameB = true ∧ rowL r ds x = some y ∧ y.Ok r ∧ forL (gN [] 5) q_l_is_truth_1 ds [some (.v r.d), V, W, some (.v x.d), L, o5, o6] = some (.nx, [some (.v r.d), V, W, some (.v y.d), L, t5, t6])) ∨
    ((ds.all cameB && (rowL r ds x).isSome) = false ∧ ∃ ρ', forL (gN [] 5) q_l_is_truth_1 ds [some (.v r.d), V, W, some (.v x.d), L, o5, o6] = some (.rt (.v (.bool false)), ρ'))
  | [], x, o5, o6, hx => .inl ⟨x, o5, o6, rfl, rfl, hx, rfl⟩
  | d :: ds, x, o5, o6, hx => by
    have g : gN [] 5 d [some (.v r.d), V, W, some (.v x.d), L, o5, o6] = some [some (.v r.d), V, W, some (.v x.d), L, some (.v d), o6] := rfl
    rw [List.all_cons, rowL]
    unfold forL
    rw [g, Option.bind_some]
    rcases own_step hr V W L o6 x d with ⟨y, t6, c1, c2, body⟩ | ⟨c, ρ', body⟩
    · rw [body, c1, c2, Bool.true_and]
      exact own_row hr V W L ds y _ _ (letL_ok hr hx c1 c2)
    · rw [body]
      refine .inr ⟨?_, ρ', rfl⟩
      rcases c with c | c
      · rw [c]; rfl
      · rw [c]
        show (_ && false) = false
        rw [Bool.and_false]
theorem own_rows {r : Ru} (hr : r.Ok) (V W : Option RV) : ∀ (ds : List D) (x : Li) (o4 o5 o6 : Option RV), x.Ok r →
    (∃ (y : Li) (t4 t5 t6 : Option RV), ds.all isT = true ∧ (ds.all fun d => (itemsOf d).all cameB) = true ∧ alongL r ds x = some y ∧ forL (gN [] 4) q_l_is_truth_2 ds [some (.v r.d), V, W, some (.v x.d), o4, o5, o6] = some (.nx, [some (.v r.d), V, W, some (.v y.d), t4, t5, t6])) ∨
    ((ds.all isT && ((ds.all fun d => (itemsOf d).all cameB) && (alongL r ds x).isSome)) = false ∧ ∃ ρ', forL (gN [] 4) q_l_is_truth_2 ds [some (.v r.d), V, W, some (.v x.d), o4, o5, o6] = some (.rt (.v (.bool false)), ρ'))
  | [], x, o4, o5, o6, hx => .inl ⟨x, o4, o5, o6, rfl, rfl, rfl, rfl⟩
  | d :: ds, x, o4, o5, o6, hx => by
    have g : gN [] 4 d [some (.v r.d), V, W, some (.v x.d), o4, o5, o6] = some [some (.v r.d), V, W, some (.v x.d), some (.v d), o5, o6] := rfl
    have ht := l_turn_run hx
    rw [List.all_cons, List.all_cons, alongL]
    unfold forL
    rw [g, Option.bind_some]
    cases hd : isT d with
    | false =>
      have body : q_l_is_truth_2 [some (.v r.d), V, W, some (.v x.d), some (.v d), o5, o6] = some (.rt (.v (.bool false)), [some (.v r.d), V, W, some (.v (x.turn r).d), some (.v d), o5, o6]) := by (first | (simp (implicitDefEqProofs := false) [q_l_is_truth_2, ht, isi_T, hd]; done) | simp [q_l_is_truth_2, ht, isi_T, hd])
      rw [body]
      exact .inr ⟨rfl, _, rfl⟩
    | true =>
      cases d with
      | tuple es =>
        have ei : itemsOf (.tuple es) = es := rfl
        rw [ei, Bool.true_and]
        rcases own_row hr V W (some (.v (.tuple es))) es (x.turn r) o5 o6 (turn_ok hr hx) with ⟨y, t5, t6, c1, c2, hy, f⟩ | ⟨c, ρ', f⟩
        · have body : q_l_is_truth_2 [some (.v r.d), V, W, some (.v x.d), some (.v (.tuple es)), o5, o6] = some (.nx, [some (.v r.d), V, W, some (.v y.d), some (.v (.tuple es)), t5, t6]) := by (first | (simp (implicitDefEqProofs := false) [q_l_is_truth_2, ht, f]; done) | simp [q_l_is_truth_2, ht, f])
          rw [body, c1, c2, Bool.true_and]
          exact own_rows hr V W ds y _ _ _ hy
        · have body : q_l_is_truth_2 [some (.v r.d), V, W, some (.v x.d), some (.v (.tuple es)), o5, o6] = some (.rt (.v (.bool false)), ρ') := by (first | (simp (implicitDefEqProofs := false) [q_l_is_truth_2, ht, f]; done) | simp [q_l_is_truth_2, ht, f])
          rw [body]
          refine .inr ⟨?_, ρ', rfl⟩
          cases w : es.all cameB with
          | false => simp
          | true =>
            rw [w, Bool.true_and] at c
            cases q : rowL r es (x.turn r) with
            | none => simp
            | some y => rw [q] at c; cases c
      | _ => cases hd
theorem l_truth_run {r : Ru} (hr : r.Ok) {x : Li} (hx : x.Ok r) {view : D} {n : Int} (v1 : ixD view (.int 1) = some (.v x.d)) (v2 : ixD view (.int 2) = some (.v (.int n))) (v : D) :
    F_l_is_truth.run [r.d, view, v] = some (.v (.bool (truthB r x n v)), []) := by
  rw [u_l_is_truth, x_run _ _ _ _ rfl, b_l_is_truth]
  cases v with
  | tuple rows =>
    by_cases hl : (rows.length : Int) = n
    · rcases own_rows hr (some (.v view)) (some (.v (.tuple rows))) rows x none none none hx with ⟨y, t4, t5, t6, c1, c2, c3, f⟩ | ⟨c, ρ', f⟩
      · (first | (simp (implicitDefEqProofs := false) [-List.all_eq_true, v1, v2, hl, f, truthB, c1, c2, c3]; done) | simp [-List.all_eq_true, v1, v2, hl, f, truthB, c1, c2, c3])
      · have e : truthB r x n (.tuple rows) = false := by
          show (decide ((rows.length : Int) = n) && _) = false
          rw [c, Bool.and_false]
        (first | (simp (implicitDefEqProofs := false) [v1, v2, hl, f, e]; done) | simp [v1, v2, hl, f, e])
    · (first | (simp (implicitDefEqProofs := false) [v2, hl, truthB]; done) | simp [v2, hl, truthB])
  | _ => (first | (simp (implicitDefEqProofs := false) [truthB]; done) | simp [truthB])
theorem check_known_run {r : Ru} (hr : r.Ok) {late : Int} (l0 : 0 ≤ late) (l1 : late < 4) {view : D} (hv : viewB r view = true) : F_check_known.run [r.d, .int late, view] = some (.v .none, []) := by
  have c1 := check_run hr
  have c2 := upto_any (.int late) 3
  rw [show numB (.int late) 0 3 = true from decide_eq_true ⟨l0, by omega⟩] at c2
  have c3 := view_by_any r hr view
  rw [hv] at c3
  have d2 : F_is_late.run [.int late] = some (.v (.bool true), []) := by
    rw [u_is_late, x_run _ _ _ _ rfl, b_is_late]
    (first | (simp (implicitDefEqProofs := false) [c2]; done) | simp [c2])
  have d3 : F_check_late.run [.int late] = some (.v .none, []) := by
    rw [u_check_late, x_run _ _ _ _ rfl, b_check_late]
    (first | (simp (implicitDefEqProofs := false) [d2]; done) | simp [d2])
  have d4 : F_check_view.run [r.d, view] = some (.v .none, []) := by
    rw [u_check_view, x_run _ _ _ _ rfl, b_check_view]
    (first | (simp (implicitDefEqProofs := false) [c3]; done) | simp [c3])
  rw [u_check_known, x_run _ _ _ _ rfl, b_check_known]
  (first | (simp (implicitDefEqProofs := false) [c1, d3, d4]; done) | simp [c1, d3, d4])
theorem truth_run {r : Ru} (hr : r.Ok) {x : Li} {late : Int} (l0 : 0 ≤ late) (l1 : late < 4) {view : D} {n : Int} (hv : viewB r view = true) (v1 : ixD view (.int 1) = some (.v x.d)) (v2 : ixD view (.int 2) = some (.v (.int n))) (hn : n ≤ 12) (v : D) (nv : Nar v) :
    F_is_truth_views.run [r.d, .int late, view, v] = some (.v (.bool (truthB r x n v)), []) := by
  have c := check_known_run hr l0 l1 hv
  have t := truth_by_run r x v1 v2 hn v nv
  rw [u_is_truth_views, x_run _ _ _ _ rfl, b_is_truth_views]
  (first | (simp (implicitDefEqProofs := false) [c, t]; done) | simp [c, t])
theorem same_bb (b : Bool) : F_l_same.run [.list [.bool b, .bool b], .list [.bool b, .bool b]] = some (.v (.bool true), []) := by cases b <;> kernel_rfl
end K18
namespace K18
open PySem PySem.Spec L2 Z
open PyProof.Rows hiding St

/-! ## what is drawn from -/
def Well (d : D) : Prop := ∃ a b c : Int, d = .list [.int a, .int b, .int c] ∧ 0 ≤ a
theorem take_well {d : D} {m : Int} (h : Well d) (hm : 0 < m) (hm2 : m < 1073741824) : ∃ (r : Int) (d' : D), F_l_take.run [d, .int m] = some (.v (.int r), [d']) ∧ 0 ≤ r ∧ r < m ∧ Well d' := by
  obtain ⟨a, b, c, rfl, ha⟩ := h
  by_cases h : 0 < a
  · refine ⟨a % m, .list [.int (a / m), .int b, .int c], ?_, Int.emod_nonneg _ (by omega), Int.emod_lt_of_pos _ hm, _, _, _, rfl, Int.ediv_nonneg ha (by omega)⟩
    rw [u_l_take, x_run _ _ _ _ rfl, b_l_take]
    (first | (simp (implicitDefEqProofs := false) [h, hm, hm2]; done) | simp [h, hm, hm2])
  · refine ⟨(b * 39373 + (c + 1) * 30323 + 11) % 2147483543 / 128 % m, .list [.int a, .int ((b * 39373 + (c + 1) * 30323 + 11) % 2147483543), .int (c + 1)], ?_, Int.emod_nonneg _ (by omega), Int.emod_lt_of_pos _ hm, _, _, _, rfl, ha⟩
    rw [u_l_take, x_run _ _ _ _ rfl, b_l_take]
    (first | (simp (implicitDefEqProofs := false) [h, hm, hm2]; done) | simp [h, hm, hm2])
theorem at_mem {ds : List D} {r : Int} (r0 : 0 ≤ r) (r1 : r < ds.length) : ∃ x, atI ds r = some x ∧ x ∈ ds := by
  have := atI_of (xs := ds) (j := r.toNat)
  rw [Int.toNat_of_nonneg r0] at this
  exact ⟨ds[r.toNat], by rw [this, List.getElem?_eq_getElem (by omega)], List.getElem_mem _⟩
theorem of_well {d : D} {ds : List D} (h : Well d) (h0 : 0 < ds.length) (h1 : ds.length < 1000) : ∃ (x d' : D), F_l_of.run [d, .tuple ds] = some (.v x, [d']) ∧ x ∈ ds ∧ Well d' := by
  obtain ⟨r, d', h2, r0, r1, w⟩ := take_well (m := (ds.length : Int)) h (by omega) (by omega)
  obtain ⟨x, e, hx⟩ := at_mem r0 r1
  refine ⟨x, d', ?_, hx, w⟩
  rw [u_l_of, x_run _ _ _ _ rfl, b_l_of]
  (first | (simp (implicitDefEqProofs := false) [h2, e]; done) | simp [h2, e])
theorem of_wellL {d : D} {ds : List D} (h : Well d) (h0 : 0 < ds.length) (h1 : ds.length < 1000) : ∃ (x d' : D), F_l_of.run [d, .list ds] = some (.v x, [d']) ∧ x ∈ ds ∧ Well d' := by
  obtain ⟨r, d', h2, r0, r1, w⟩ := take_well (m := (ds.length : Int)) h (by omega) (by omega)
  obtain ⟨x, e, hx⟩ := at_mem r0 r1
  refine ⟨x, d', ?_, hx, w⟩
  rw [u_l_of, x_run _ _ _ _ rfl, b_l_of]
  (first | (simp (implicitDefEqProofs := false) [h2, e]; done) | simp [h2, e])
def Days (x : D) : Prop := ∃ i : Int, x = .int i ∧ 0 ≤ i ∧ i ≤ 4
theorem small_lc (M T A : Option RV) {d : D} (hd : Well d) : ∃ acc ρ', lcL [5] (gN [] 5) bYes q_l_rules_1 (Z.upTo 0 5) [some (.o d), M, T, A, none, none] [] = some (acc, ρ') ∧ acc.length + ([] : List D).length = 5 ∧ (∀ x ∈ acc, Days x) ∧ ∃ d', ρ' = [some (.o d'), M, T, A, none, none] ∧ Well d' := by
  refine lcL_st (I := fun ds acc ρ => acc.length + ds.length = 5 ∧ (∀ x ∈ acc, Days x) ∧ ∃ d', ρ = [some (.o d'), M, T, A, none, none] ∧ Well d') (fun e ds acc ρ hI => ?_) _ _ _ ⟨rfl, (fun x h => by cases h), d, rfl, hd⟩
  obtain ⟨h1, h2, d, rfl, w⟩ := hI
  obtain ⟨x, d1, g1, hx, w1⟩ := of_well (ds := [.int 0, .int 1, .int 1, .int 2]) w (by simp) (by simp)
  refine ⟨[some (.o d), M, T, A, none, some (.v e)], [some (.o d), M, T, A, none, some (.v e)], true, by simp, rfl, .v x, [some (.o d1), M, T, A, none, some (.v e)], by (first | (simp (implicitDefEqProofs := false) [q_l_rules_1, g1]; done) | simp [q_l_rules_1, g1]), by rw [List.length_cons] at h1; omega, ?_, ?_, d1, by simp, w1⟩
  · rw [List.length_append, List.length_singleton]; rw [List.length_cons] at h1; omega
  · intro y hy
    rcases List.mem_append.mp hy with hy | hy
    · exact h2 y hy
    · have e : y = x := List.mem_singleton.mp hy
      subst e
      simp only [List.mem_cons, List.not_mem_nil, or_false] at hx
      rcases hx with rfl | rfl | rfl | rfl
      · exact ⟨0, rfl, by omega, by omega⟩
      · exact ⟨1, rfl, by omega, by omega⟩
      · exact ⟨1, rfl, by omega, by omega⟩
      · exact ⟨2, rfl, by omega, by omega⟩
theorem small_run {m : Int} (m0 : 0 < m) (m1 : m ≤ 9) {d : D} (hd : Well d) : ∃ (r : Ru) (d' : D), F_l_rules.run [d, .int m] = some (.v r.d, [d']) ∧ r.Ok ∧ Well d' := by
  obtain ⟨x, d2, g1, x0, x1, w2⟩ := take_well (m := m) hd (by omega) (by omega)
  obtain ⟨y, d3, g2, y0, y1, w3⟩ := take_well (m := 2) w2 (by decide) (by decide)
  obtain ⟨acc, ρ', h1, h2, h3, d1, rfl, w1⟩ := small_lc (some (.v (.int m))) (some (.v (.int (1 + x)))) (some (.v (.int (1 + y)))) w3
  match acc, h2 with
  | [a, b, c, e, f], _ =>
    obtain ⟨a, rfl, a0, a1⟩ := h3 a (by simp)
    obtain ⟨b, rfl, b0, b1⟩ := h3 b (by simp)
    obtain ⟨c, rfl, c0, c1⟩ := h3 c (by simp)
    obtain ⟨e, rfl, e0, e1⟩ := h3 e (by simp)
    obtain ⟨f, rfl, f0, f1⟩ := h3 f (by simp)
    obtain ⟨z, d4, g3, z0, z1, w4⟩ := take_well (m := 2) w1 (by decide) (by decide)
    refine ⟨⟨1 + x, a, b, c, e, f, 1 + y, decide (z = 0)⟩, d4, ?_, ⟨by simp; omega, by simp; omega, a0, a1, b0, b1, c0, c1, e0, e1, f0, f1, by simp; omega, by simp; omega⟩, w4⟩
    rw [u_l_rules, x_run _ _ _ _ rfl, b_l_rules]
    (first | (simp (implicitDefEqProofs := false) [h1, g1, g2, g3, Ru.d]; done) | simp [h1, g1, g2, g3, Ru.d])
/-! ## a life that is drawn -/
def stagesL (r : Ru) : List D := (if 0 < r.grace then [.tuple [.str "grace", .int r.grace]] else []) ++ ((if 0 < r.hold then [.tuple [.str "hold", .int r.hold]] else []) ++ (if 0 < r.wait then [.tuple [.str "wait", .int r.wait]] else []))
theorem stages_lc (r : Ru) (d : D) (W H : Option RV) : lcL [11] (gN [] 11) q_l_life_1 q_l_life_2 [.tuple [.str "grace", .int r.grace], .tuple [.str "hold", .int r.hold], .tuple [.str "wait", .int r.wait]] [some (.o d), some (.v r.d), W, H, none, none, none, none, none, none, none, none] [] =
    some (stagesL r, [some (.o d), some (.v r.d), W, H, none, none, none, none, none, none, none, none]) := by
  unfold stagesL
  by_cases h1 : 0 < r.grace <;> by_cases h2 : 0 < r.hold <;> by_cases h3 : 0 < r.wait <;> (first | (simp (implicitDefEqProofs := false) [lcL, q_l_life_1, q_l_life_2, h1, h2, h3]; done) | simp [lcL, q_l_life_1, q_l_life_2, h1, h2, h3])
theorem stages_eq (r : Ru) : eqD (.list (stagesL r)) (.list []) = some (.v (.bool (stagesL r).isEmpty)) := by
  unfold stagesL
  split <;> split <;> split <;> rfl
theorem stages_len (r : Ru) : (stagesL r).length < 1000 := by
  unfold stagesL
  split <;> split <;> split <;> simp
theorem stages_mem {r : Ru} {x : D} (h : x ∈ stagesL r) : (0 < r.grace ∧ x = .tuple [.str "grace", .int r.grace]) ∨ (0 < r.hold ∧ x = .tuple [.str "hold", .int r.hold]) ∨ (0 < r.wait ∧ x = .tuple [.str "wait", .int r.wait]) := by
  unfold stagesL at h
  rcases List.mem_append.mp h with h | h
  · split at h
    · rename_i c; exact .inl ⟨c, List.mem_singleton.mp h⟩
    · cases h
  · rcases List.mem_append.mp h with h | h
    · split at h
      · rename_i c; exact .inr (.inl ⟨c, List.mem_singleton.mp h⟩)
      · cases h
    · split at h
      · rename_i c; exact .inr (.inr ⟨c, List.mem_singleton.mp h⟩)
      · cases h
theorem life_drawn {r : Ru} (hr : r.Ok) {d : D} (hd : Well d) : ∃ (x : Li) (d' : D), F_l_life.run [d, r.d] = some (.v x.d, [d']) ∧ x.Ok r ∧ Well d' := by
  have t1 := hr.t1; have t2 := hr.t2; have g1 := hr.g1; have g2 := hr.g2; have h1 := hr.h1; have h2 := hr.h2
  have wt1 := hr.w1; have wt2 := hr.w2; have k1 := hr.k1; have k2 := hr.k2; have l1 := hr.l1; have l2 := hr.l2; have a1 := hr.a1; have a2 := hr.a2
  have tp0 : 0 ≤ r.top := by unfold Ru.top; omega
  have tp4 : r.top ≤ 4 := by unfold Ru.top; omega
  have lt := l_top_run r
  obtain ⟨way, d1, e1, w0, w1, q1⟩ := take_well (m := 8) hd (by decide) (by decide)
  obtain ⟨ho, d2, e2, o0, o1, q2⟩ := take_well (m := 4) q1 (by decide) (by decide)
  have lc := stages_lc r d2 (some (.v (.int way))) (some (.v (.int ho)))
  have se := stages_eq r
  rw [u_l_life]
  by_cases c0 : way = 0
  · subst c0
    refine ⟨.free, d2, ?_, trivial, q2⟩
    rw [x_run _ _ _ _ rfl, b_l_life]
    (first | (simp (implicitDefEqProofs := false) [e1, e2, lc, Li.d]; done) | simp [e1, e2, lc, Li.d])
  · by_cases c1 : way = 1
    · subst c1
      cases hs : (stagesL r).isEmpty with
      | true =>
        rw [hs] at se
        refine ⟨.free, d2, ?_, trivial, q2⟩
        rw [x_run _ _ _ _ rfl, b_l_life]
        (first | (simp (implicitDefEqProofs := false) [e1, e2, lc, se, Li.d]; done) | simp [e1, e2, lc, se, Li.d])
      | false =>
        rw [hs] at se
        have hp : 0 < (stagesL r).length := by
          cases hh : stagesL r with
          | nil => rw [hh] at hs; cases hs
          | cons x xs => simp
        obtain ⟨x, d3, e3, hx, q3⟩ := of_wellL q2 hp (stages_len r)
        rcases stages_mem hx with ⟨m0, rfl⟩ | ⟨m0, rfl⟩ | ⟨m0, rfl⟩
        · obtain ⟨n, d4, e4, n0, n1, q4⟩ := take_well (m := r.grace) q3 m0 (by omega)
          refine ⟨.grace ho (1 + n), d4, ?_, ⟨⟨o0, by omega⟩, by omega, by omega⟩, q4⟩
          rw [x_run _ _ _ _ rfl, b_l_life]
          (first | (simp (decide := true) (implicitDefEqProofs := false) [e1, e2, lc, se, e3, e4, Li.d]; done) | simp (decide := true) [e1, e2, lc, se, e3, e4, Li.d])
        · obtain ⟨n, d4, e4, n0, n1, q4⟩ := take_well (m := r.hold) q3 m0 (by omega)
          refine ⟨.hold ho (1 + n), d4, ?_, ⟨⟨o0, by omega⟩, by omega, by omega⟩, q4⟩
          rw [x_run _ _ _ _ rfl, b_l_life]
          (first | (simp (decide := true) (implicitDefEqProofs := false) [e1, e2, lc, se, e3, e4, Li.d]; done) | simp (decide := true) [e1, e2, lc, se, e3, e4, Li.d])
        · obtain ⟨n, d4, e4, n0, n1, q4⟩ := take_well (m := r.wait) q3 m0 (by omega)
          refine ⟨.wait (1 + n), d4, ?_, ⟨by omega, by omega⟩, q4⟩
          rw [x_run _ _ _ _ rfl, b_l_life]
          (first | (simp (decide := true) (implicitDefEqProofs := false) [e1, e2, lc, se, e3, e4, Li.d]; done) | simp (decide := true) [e1, e2, lc, se, e3, e4, Li.d])
    · obtain ⟨p, d3, e3, p0, p1, q3⟩ := take_well (m := 3) q2 (by decide) (by decide)
      by_cases c2 : p = 0
      · subst c2
        obtain ⟨s, d4, e4, s0, s1, q4⟩ := take_well (m := 3) q3 (by decide) (by decide)
        obtain ⟨n, d5, e5, n0, n1, q5⟩ := take_well (m := r.ask) q4 (by omega) (by omega)
        obtain ⟨lk, d6, e6, k0, kk1, q6⟩ := take_well (m := 3) q5 (by decide) (by decide)
        obtain ⟨le, d7, e7, le0, le1, q7⟩ := take_well (m := 2 * r.term) q6 (by omega) (by omega)
        obtain ⟨ag, d8, e8, ag0, ag1, q8⟩ := take_well (m := r.top + 1) q7 (by omega) (by omega)
        obtain ⟨co, d9, e9, _, _, q9⟩ := take_well (m := 2) q8 (by decide) (by decide)
        refine ⟨.held ho (1 + le) ag false (decide (co = 0)) (some ((ho + 1 + s) % 4, 1 + n)), d9, ?_, ⟨⟨o0, by omega⟩, by omega, by omega, ag0, by omega, ⟨by omega, by omega⟩, by omega, by omega, by omega⟩, q9⟩
        rw [x_run _ _ _ _ rfl, b_l_life]
        by_cases c3 : lk = 0 <;> (first | (simp (implicitDefEqProofs := false) [e1, e2, lc, c0, c1, e3, e4, e5, e6, lt, e7, e8, e9, Li.d, askD, isN, c3]; done) | simp [e1, e2, lc, c0, c1, e3, e4, e5, e6, lt, e7, e8, e9, Li.d, askD, isN, c3])
      · obtain ⟨lk, d6, e6, k0, kk1, q6⟩ := take_well (m := 3) q3 (by decide) (by decide)
        obtain ⟨le, d7, e7, le0, le1, q7⟩ := take_well (m := 2 * r.term) q6 (by omega) (by omega)
        obtain ⟨ag, d8, e8, ag0, ag1, q8⟩ := take_well (m := r.top + 1) q7 (by omega) (by omega)
        obtain ⟨co, d9, e9, _, _, q9⟩ := take_well (m := 2) q8 (by decide) (by decide)
        refine ⟨.held ho (1 + le) ag (decide (lk = 0)) (decide (co = 0)) none, d9, ?_, ⟨⟨o0, by omega⟩, by omega, by omega, ag0, by omega, trivial⟩, q9⟩
        rw [x_run _ _ _ _ rfl, b_l_life]
        by_cases c3 : lk = 0 <;> (first | (simp (implicitDefEqProofs := false) [e1, e2, lc, c0, c1, c2, e3, e6, lt, e7, e8, e9, Li.d, askD, isN, c3]; done) | simp [e1, e2, lc, c0, c1, c2, e3, e6, lt, e7, e8, e9, Li.d, askD, isN, c3])
end K18
namespace K18
open PySem PySem.Spec L2 Z
open PyProof.Rows hiding St

/-! ## a truth that is drawn -/
theorem in_of_mem {ws : List Str} {x : D} (h : x ∈ ws.map PyData.str) : strIn ws x = true := by
  obtain ⟨z, hz, rfl⟩ := List.mem_map.mp h
  show (ws.any fun w => decide (w = z)) = true
  exact List.any_eq_true.mpr ⟨z, hz, decide_eq_true rfl⟩
theorem dd_mem {x : D} (h : x ∈ dds.map PyData.str) : ∃ e : Dd, x = .str e.s := dd_of (in_of_mem h)
theorem deed_drawn (x : Li) (i : Int) {d : D} (hd : Well d) : ∃ (e : Dd) (d' : D), F_l_deed.run [d, x.d, .int i] = some (.v (.str e.s), [d']) ∧ Well d' := by
  obtain ⟨k, d1, e1, k0, k1, w1⟩ := take_well (m := 5) hd (by decide) (by decide)
  rw [u_l_deed]
  by_cases c : k = 0
  · subst c
    obtain ⟨y, d2, e2, hy, w2⟩ := of_well (ds := dds.map .str) w1 (by decide) (by decide)
    obtain ⟨e, rfl⟩ := dd_mem hy
    refine ⟨e, d2, ?_, w2⟩
    have ed : (PyData.tuple [.str "create", .str "renew", .str "redeem", .str "delete", .str "lock", .str "unlock", .str "code", .str "take", .str "guess", .str "agree", .str "refuse"] : D) = .tuple (dds.map .str) := rfl
    rw [x_run _ _ _ _ rfl, b_l_deed]
    (first | (simp (implicitDefEqProofs := false) [-List.map_cons, -List.map_nil, e1, ed, e2]; done) | simp [-List.map_cons, -List.map_nil, e1, ed, e2])
  · cases x with
    | free => exact ⟨.create, d1, by rw [x_run _ _ _ _ rfl, b_l_deed]; (first | (simp (decide := true) (implicitDefEqProofs := false) [e1, c, Li.d, x_inT, x_eqvS, Dd.s]; done) | simp (decide := true) [e1, c, Li.d, x_inT, x_eqvS, Dd.s]), w1⟩
    | wait n => exact ⟨.create, d1, by rw [x_run _ _ _ _ rfl, b_l_deed]; (first | (simp (decide := true) (implicitDefEqProofs := false) [e1, c, Li.d, x_inT, x_eqvS, Dd.s]; done) | simp (decide := true) [e1, c, Li.d, x_inT, x_eqvS, Dd.s]), w1⟩
    | hold h n =>
      by_cases q : h = i
      · exact ⟨.redeem, d1, by rw [x_run _ _ _ _ rfl, b_l_deed]; (first | (simp (decide := true) (implicitDefEqProofs := false) [e1, c, Li.d, x_inT, x_eqvS, Dd.s, q]; done) | simp (decide := true) [e1, c, Li.d, x_inT, x_eqvS, Dd.s, q]), w1⟩
      · exact ⟨.take, d1, by rw [x_run _ _ _ _ rfl, b_l_deed]; (first | (simp (decide := true) (implicitDefEqProofs := false) [e1, c, Li.d, x_inT, x_eqvS, Dd.s, q]; done) | simp (decide := true) [e1, c, Li.d, x_inT, x_eqvS, Dd.s, q]), w1⟩
    | grace h n =>
      by_cases q : h = i
      · obtain ⟨y, d2, e2, hy, w2⟩ := of_well (ds := [.str "renew", .str "redeem", .str "delete"]) w1 (by simp) (by simp)
        have hy : ∃ e : Dd, y = .str e.s := by
          simp only [List.mem_cons, List.not_mem_nil, or_false] at hy
          rcases hy with rfl | rfl | rfl
          · exact ⟨.renew, rfl⟩
          · exact ⟨.redeem, rfl⟩
          · exact ⟨.delete, rfl⟩
        obtain ⟨e, rfl⟩ := hy
        exact ⟨e, d2, by rw [x_run _ _ _ _ rfl, b_l_deed]; (first | (simp (decide := true) (implicitDefEqProofs := false) [e1, c, Li.d, x_inT, x_eqvS, q, e2]; done) | simp (decide := true) [e1, c, Li.d, x_inT, x_eqvS, q, e2]), w2⟩
      · exact ⟨.take, d1, by rw [x_run _ _ _ _ rfl, b_l_deed]; (first | (simp (decide := true) (implicitDefEqProofs := false) [e1, c, Li.d, x_inT, x_eqvS, Dd.s, q]; done) | simp (decide := true) [e1, c, Li.d, x_inT, x_eqvS, Dd.s, q]), w1⟩
    | held h left age l k2 a =>
      by_cases q : h = i
      · cases a with
        | none =>
          obtain ⟨y, d2, e2, hy, w2⟩ := of_well (ds := [.str "renew", .str "renew", .str "code", .str "unlock", .str "lock", .str "delete"]) w1 (by simp) (by simp)
          have hy : ∃ e : Dd, y = .str e.s := by
            simp only [List.mem_cons, List.not_mem_nil, or_false] at hy
            rcases hy with rfl | rfl | rfl | rfl | rfl | rfl
            · exact ⟨.renew, rfl⟩
            · exact ⟨.renew, rfl⟩
            · exact ⟨.code, rfl⟩
            · exact ⟨.unlock, rfl⟩
            · exact ⟨.lock, rfl⟩
            · exact ⟨.delete, rfl⟩
          obtain ⟨e, rfl⟩ := hy
          exact ⟨e, d2, by rw [x_run _ _ _ _ rfl, b_l_deed]; (first | (simp (decide := true) (implicitDefEqProofs := false) [e1, c, Li.d, askD, isN, x_inT, x_eqvS, q, e2]; done) | simp (decide := true) [e1, c, Li.d, askD, isN, x_inT, x_eqvS, q, e2]), w2⟩
        | some p =>
          obtain ⟨y, d2, e2, hy, w2⟩ := of_well (ds := [.str "agree", .str "refuse", .str "code"]) w1 (by simp) (by simp)
          have hy : ∃ e : Dd, y = .str e.s := by
            simp only [List.mem_cons, List.not_mem_nil, or_false] at hy
            rcases hy with rfl | rfl | rfl
            · exact ⟨.agree, rfl⟩
            · exact ⟨.refuse, rfl⟩
            · exact ⟨.code, rfl⟩
          obtain ⟨e, rfl⟩ := hy
          exact ⟨e, d2, by rw [x_run _ _ _ _ rfl, b_l_deed]; (first | (simp (decide := true) (implicitDefEqProofs := false) [e1, c, Li.d, askD, isN, x_inT, x_eqvS, q, e2]; done) | simp (decide := true) [e1, c, Li.d, askD, isN, x_inT, x_eqvS, q, e2]), w2⟩
      · exact ⟨.take, d1, by rw [x_run _ _ _ _ rfl, b_l_deed]; (first | (simp (decide := true) (implicitDefEqProofs := false) [e1, c, Li.d, x_inT, x_eqvS, Dd.s, q]; done) | simp (decide := true) [e1, c, Li.d, x_inT, x_eqvS, Dd.s, q]), w1⟩
theorem rowL_snoc (r : Ru) : ∀ (ds : List D) (x : Li) (c : D), rowL r (ds ++ [c]) x = (rowL r ds x).bind fun y => letL r y c
  | [], x, c => by
    show (letL r x c).bind (rowL r []) = letL r x c
    cases letL r x c <;> rfl
  | d :: ds, x, c => by
    rw [List.cons_append, rowL, rowL]
    cases letL r x d with
    | none => rfl
    | some y => exact rowL_snoc r ds y c
theorem alongL_snoc (r : Ru) : ∀ (ds : List D) (x : Li) (c : D), alongL r (ds ++ [c]) x = (alongL r ds x).bind fun y => rowL r (itemsOf c) (y.turn r)
  | [], x, c => by
    show (rowL r (itemsOf c) (x.turn r)).bind (alongL r []) = rowL r (itemsOf c) (x.turn r)
    cases rowL r (itemsOf c) (x.turn r) <;> rfl
  | d :: ds, x, c => by
    rw [List.cons_append, alongL, alongL]
    cases rowL r (itemsOf d) (x.turn r) with
    | none => rfl
    | some y => exact alongL_snoc r ds y c
theorem holder_house {r : Ru} {x : Li} (hx : x.Ok r) {h : Int} (e : x.holder = some h) : House h := by
  cases x with
  | held g left age l c a => cases e; exact hx.1
  | grace g n => cases e; exact hx.1
  | hold g n => cases e; exact hx.1
  | _ => cases e
/-- letters that were drawn -/
structure RowOk (r : Ru) (x0 x : Li) (ls : List D) : Prop where
  came : ls.all cameB = true
  along : rowL r ls x0 = some x
  ok : x.Ok r
theorem came_new {i : Int} (hi : House i) (e : Dd) (b : Bool) : cameB (.tuple [.int i, .str e.s, .str (ansS b)]) = true := by
  have h2 : strIn dds (.str e.s) = true := by cases e <;> rfl
  show (numB (.int i) 0 3 && strIn dds (.str e.s) && strIn ans (.str (ansS b))) = true
  rw [h2, ans_in, show numB (.int i) 0 3 = true from decide_eq_true hi]; rfl
theorem RowOk.add {r : Ru} (hr : r.Ok) {x0 x : Li} {ls : List D} (h : RowOk r x0 x ls) {i : Int} (hi : House i) (e : Dd) :
    RowOk r x0 ((x.done r i e).getD x) (ls ++ [.tuple [.int i, .str e.s, .str (ansS (x.done r i e).isSome)]]) := by
  refine ⟨?_, ?_, ?_⟩
  · rw [List.all_append, h.came, List.all_cons, came_new hi]; rfl
  · rw [rowL_snoc, h.along, Option.bind_some, letL_eq, if_pos rfl]
  · exact letL_ok hr h.ok (came_new hi e (x.done r i e).isSome) (by rw [letL_eq, if_pos rfl])
theorem lead_row {r : Ru} (hr : r.Ok) (F N T Lv dy : Option RV) {ho most : Int} (hh : House ho) (x0 : Li) : ∀ (ds : List D) (d : D) (x : Li) (ls : List D) (own : Int) (o12 o13 o14 o15 : Option RV), Well d → RowOk r x0 x ls → ls.length + ds.length ≤ 90 →
    ∃ (d' : D) (x' : Li) (ls' : List D) (own' : Int) (t12 t13 t14 t15 : Option RV), forL (gN [0] 12) q_l_lead_1 ds [some (.o d), some (.v r.d), F, N, some (.v (.int ho)), some (.v (.int most)), some (.v x.d), T, Lv, some (.v (.int own)), dy, some (.o (.list ls)), o12, o13, o14, o15] =
      some (.nx, [some (.o d'), some (.v r.d), F, N, some (.v (.int ho)), some (.v (.int most)), some (.v x'.d), T, Lv, some (.v (.int own')), dy, some (.o (.list ls')), t12, t13, t14, t15]) ∧ Well d' ∧ RowOk r x0 x' ls' ∧ ls'.length ≤ ls.length + ds.length
  | [], d, x, ls, own, o12, o13, o14, o15, hd, hw, hl => ⟨d, x, ls, own, o12, o13, o14, o15, rfl, hd, hw, by simp⟩
  | e0 :: ds, d, x, ls, own, o12, o13, o14, o15, hd, hw, hl => by
    rw [List.length_cons] at hl
    have hol := l_holder_run x
    obtain ⟨k, d1, e1, k0, k1, w1⟩ := take_well (m := 4) hd (by decide) (by decide)
    obtain ⟨y, d2, e2, hy, w2⟩ := of_well (ds := [.int ho, .int ho, oiD x.holder, .int k]) w1 (by simp) (by simp)
    have g : ∀ (A B C Dd' E F' G H : Option RV), gN [0] 12 e0 [some (.o d), some (.v r.d), F, N, A, B, C, T, Lv, Dd', dy, E, o12, F', G, H] = some [some (.o d), some (.v r.d), F, N, A, B, C, T, Lv, Dd', dy, E, some (.v e0), F', G, H] := fun _ _ _ _ _ _ _ _ => rfl
    -- who sends
    have hs : ∃ i : Int, House i ∧ ∀ ρ : Rho, ρ[4]? = some (some (.v (.int ho))) → ρ[13]? = some (some (.v y)) → (eIf (bOp2 isD (oSl 13) (oTv (eC .none))) (eVar 4) (eVar 13)) ρ = some (.v (.int i), ρ) := by
      have sendI : ∀ i : Int, y = .int i → House i → ∃ i : Int, House i ∧ ∀ ρ : Rho, ρ[4]? = some (some (.v (.int ho))) → ρ[13]? = some (some (.v y)) → (eIf (bOp2 isD (oSl 13) (oTv (eC .none))) (eVar 4) (eVar 13)) ρ = some (.v (.int i), ρ) := fun i e hi => ⟨i, hi, fun ρ p1 p2 => by subst e; (first | (simp (implicitDefEqProofs := false) [p2, isN]; done) | simp [p2, isN])⟩
      simp only [List.mem_cons, List.not_mem_nil, or_false] at hy
      rcases hy with rfl | rfl | rfl | rfl
      · exact sendI ho rfl hh
      · exact sendI ho rfl hh
      · cases q : x.holder with
        | none => exact ⟨ho, hh, fun ρ p1 p2 => by (first | (simp (implicitDefEqProofs := false) [p1, p2, isN, oiD]; done) | simp [p1, p2, isN, oiD])⟩
        | some h =>
          have e : oiD x.holder = .int h := by rw [q]; rfl
          rw [q] at sendI
          exact sendI h rfl (holder_house hw.ok q)
      · exact sendI k rfl ⟨k0, by omega⟩
    obtain ⟨i, hi, hs⟩ := hs
    obtain ⟨e, d3, e3, w3⟩ := deed_drawn x i w2
    have ll := l_letter_run r x i e
    rw [ans_eq] at ll
    have hw2 := hw.add hr hi e
    have lt : ls.length < 16777216 := by omega
    unfold forL
    rw [g, Option.bind_some]
    by_cases c : (¬ i = ho) ∨ own < most
    · obtain ⟨d', x', ls', own', t12, t13, t14, t15, h1, h2, h3, h4⟩ := lead_row hr F N T Lv dy hh x0 ds d3 ((x.done r i e).getD x) (ls ++ [.tuple [.int i, .str e.s, .str (ansS (x.done r i e).isSome)]]) (own + if i = ho then 1 else 0) (some (.v e0)) (some (.v (.int i))) (some (.v (.str e.s))) (some (.v (.str (ansS (x.done r i e).isSome)))) w3 hw2 (by rw [List.length_append, List.length_singleton]; omega)
      refine ⟨d', x', ls', own', t12, t13, t14, t15, ?_, h2, h3, by rw [List.length_append, List.length_singleton] at h4; rw [List.length_cons]; omega⟩
      rw [← h1]
      generalize (x.done r i e).getD x = y2 at ll ⊢
      generalize (x.done r i e).isSome = b at ll ⊢
      have body : q_l_lead_1 [some (.o d), some (.v r.d), F, N, some (.v (.int ho)), some (.v (.int most)), some (.v x.d), T, Lv, some (.v (.int own)), dy, some (.o (.list ls)), some (.v e0), o13, o14, o15] =
          some (.nx, [some (.o d3), some (.v r.d), F, N, some (.v (.int ho)), some (.v (.int most)), some (.v y2.d), T, Lv, some (.v (.int (own + if i = ho then 1 else 0))), dy, some (.o (.list (ls ++ [.tuple [.int i, .str e.s, .str (ansS b)]]))), some (.v e0), some (.v (.int i)), some (.v (.str e.s)), some (.v (.str (ansS b)))]) := by
        have hs2 := hs [some (.o d2), some (.v r.d), F, N, some (.v (.int ho)), some (.v (.int most)), some (.v x.d), T, Lv, some (.v (.int own)), dy, some (.o (.list ls)), some (.v e0), some (.v y), o14, o15] rfl rfl
        by_cases c1 : i = ho
        · have c2 : own < most := by rcases c with c | c; exact absurd c1 c; exact c
          subst c1
          (first | (simp (implicitDefEqProofs := false) [-x_eIf, q_l_lead_1, hol, e1, e2, hs2, c2, e3, ll, lt]; done) | simp [-x_eIf, q_l_lead_1, hol, e1, e2, hs2, c2, e3, ll, lt])
          (first | (simp (implicitDefEqProofs := false) [e3, ll, lt]; done) | simp [e3, ll, lt])
        · (first | (simp (implicitDefEqProofs := false) [-x_eIf, q_l_lead_1, hol, e1, e2, hs2, c1, e3, ll, lt]; done) | simp [-x_eIf, q_l_lead_1, hol, e1, e2, hs2, c1, e3, ll, lt])
          (first | (simp (implicitDefEqProofs := false) [c1, e3, ll, lt]; done) | simp [c1, e3, ll, lt])
      rw [body]; rfl
    · have c1 : i = ho := Classical.byContradiction fun h => c (.inl h)
      have c2 : ¬ own < most := fun h => c (.inr h)
      obtain ⟨d', x', ls', own', t12, t13, t14, t15, h1, h2, h3, h4⟩ := lead_row hr F N T Lv dy hh x0 ds d2 x ls own (some (.v e0)) (some (.v (.int i))) o14 o15 w2 hw (by omega)
      refine ⟨d', x', ls', own', t12, t13, t14, t15, ?_, h2, h3, by rw [List.length_cons]; omega⟩
      rw [← h1]
      have body : q_l_lead_1 [some (.o d), some (.v r.d), F, N, some (.v (.int ho)), some (.v (.int most)), some (.v x.d), T, Lv, some (.v (.int own)), dy, some (.o (.list ls)), some (.v e0), o13, o14, o15] =
          some (.nx, [some (.o d2), some (.v r.d), F, N, some (.v (.int ho)), some (.v (.int most)), some (.v x.d), T, Lv, some (.v (.int own)), dy, some (.o (.list ls)), some (.v e0), some (.v (.int i)), o14, o15]) := by
        have hs2 := hs [some (.o d2), some (.v r.d), F, N, some (.v (.int ho)), some (.v (.int most)), some (.v x.d), T, Lv, some (.v (.int own)), dy, some (.o (.list ls)), some (.v e0), some (.v y), o14, o15] rfl rfl
        subst c1
        (first | (simp (implicitDefEqProofs := false) [-x_eIf, q_l_lead_1, hol, e1, e2, hs2, c2]; done) | simp [-x_eIf, q_l_lead_1, hol, e1, e2, hs2, c2])
      rw [body]; rfl
end K18
namespace K18
open PySem PySem.Spec L2 Z
open PyProof.Rows hiding St

/-- rows that were drawn -/
structure TruthOk (r : Ru) (x0 x : Li) (ts : List D) : Prop where
  tup : ts.all isT = true
  came : (ts.all fun d => (itemsOf d).all cameB) = true
  along : alongL r ts x0 = some x
  ok : x.Ok r
  nar : ∀ d ∈ ts, (itemsOf d).length ≤ 3
theorem TruthOk.add {r : Ru} {x0 x y : Li} {ts ls : List D} (h : TruthOk r x0 x ts) (h2 : RowOk r (x.turn r) y ls) (hl : ls.length ≤ 3) : TruthOk r x0 y (ts ++ [.tuple ls]) := by
  refine ⟨?_, ?_, ?_, h2.ok, fun d hd => ?_⟩
  · rw [List.all_append, h.tup]; rfl
  · rw [List.all_append, h.came, List.all_cons]
    show (true && (ls.all cameB && true)) = true
    rw [h2.came]; rfl
  · rw [alongL_snoc, h.along]
    exact h2.along
  · rcases List.mem_append.mp hd with hd | hd
    · exact h.nar d hd
    · rw [List.mem_singleton.mp hd]; exact hl
theorem lead_days {r : Ru} (hr : r.Ok) (F N : Option RV) {ho most : Int} (hh : House ho) (x0 : Li) : ∀ (ds : List D) (d : D) (x : Li) (ts lv : List D) (own : Int) (o10 o11 o12 o13 o14 o15 : Option RV), Well d → TruthOk r x0 x ts → ts.length + ds.length ≤ 90 → lv.length + ds.length ≤ 90 →
    ∃ (d' : D) (x' : Li) (ts' lv' : List D) (own' : Int) (t10 t11 t12 t13 t14 t15 : Option RV), forL (gN [0] 10) q_l_lead_2 ds [some (.o d), some (.v r.d), F, N, some (.v (.int ho)), some (.v (.int most)), some (.v x.d), some (.o (.list ts)), some (.o (.list lv)), some (.v (.int own)), o10, o11, o12, o13, o14, o15] =
      some (.nx, [some (.o d'), some (.v r.d), F, N, some (.v (.int ho)), some (.v (.int most)), some (.v x'.d), some (.o (.list ts')), some (.o (.list lv')), some (.v (.int own')), t10, t11, t12, t13, t14, t15]) ∧ Well d' ∧ TruthOk r x0 x' ts' ∧ ts'.length = ts.length + ds.length
  | [], d, x, ts, lv, own, o10, o11, o12, o13, o14, o15, hd, ht, _, _ => ⟨d, x, ts, lv, own, o10, o11, o12, o13, o14, o15, rfl, hd, ht, by simp⟩
  | e0 :: ds, d, x, ts, lv, own, o10, o11, o12, o13, o14, o15, hd, ht, hl, hv => by
    rw [List.length_cons] at hl hv
    have tr := l_turn_run ht.ok
    obtain ⟨n, d1, e1, hn, w1⟩ := of_well (ds := [.int 0, .int 1, .int 1, .int 2, .int 3]) hd (by simp) (by simp)
    have hn : ∃ k : Nat, n = .int (k : Int) ∧ k ≤ 3 := by
      simp only [List.mem_cons, List.not_mem_nil, or_false] at hn
      rcases hn with rfl | rfl | rfl | rfl | rfl
      · exact ⟨0, rfl, by omega⟩
      · exact ⟨1, rfl, by omega⟩
      · exact ⟨1, rfl, by omega⟩
      · exact ⟨2, rfl, by omega⟩
      · exact ⟨3, rfl, by omega⟩
    obtain ⟨k, rfl, hk⟩ := hn
    have lu : (Z.upTo 0 k).length = k := by unfold Z.upTo; rw [List.length_map, List.length_range]
    obtain ⟨d2, y, ls, own2, t12, t13, t14, t15, f1, w2, ro, hls⟩ := lead_row hr F N (some (.o (.list ts))) (some (.o (.list lv))) (some (.v e0)) (most := most) hh (x.turn r) (Z.upTo 0 k) d1 (x.turn r) [] own o12 o13 o14 o15 w1 ⟨rfl, rfl, turn_ok hr ht.ok⟩ (by rw [lu]; simp; omega)
    rw [lu, List.length_nil, Nat.zero_add] at hls
    have ht2 := ht.add ro (by omega)
    obtain ⟨d', x', ts', lv', own', u10, u11, u12, u13, u14, u15, h1, h2, h3, h4⟩ := lead_days hr F N hh x0 ds d2 y (ts ++ [.tuple ls]) (lv ++ [y.d]) own2 (some (.v e0)) (some (.o (.list ls))) t12 t13 t14 t15 w2 ht2 (by rw [List.length_append, List.length_singleton]; omega) (by rw [List.length_append, List.length_singleton]; omega)
    refine ⟨d', x', ts', lv', own', u10, u11, u12, u13, u14, u15, ?_, h2, h3, by rw [h4, List.length_append, List.length_singleton, List.length_cons]; omega⟩
    have g : gN [0] 10 e0 [some (.o d), some (.v r.d), F, N, some (.v (.int ho)), some (.v (.int most)), some (.v x.d), some (.o (.list ts)), some (.o (.list lv)), some (.v (.int own)), o10, o11, o12, o13, o14, o15] = some [some (.o d), some (.v r.d), F, N, some (.v (.int ho)), some (.v (.int most)), some (.v x.d), some (.o (.list ts)), some (.o (.list lv)), some (.v (.int own)), some (.v e0), o11, o12, o13, o14, o15] := rfl
    unfold forL
    rw [g, Option.bind_some, ← h1]
    have l1 : ts.length < 16777216 := by omega
    have l2 : lv.length < 16777216 := by omega
    have rg : rng1 [.int (k : Int)] = some (Z.upTo 0 k) := x_rng1 (j := (k : Int)) (by omega) (by omega)
    have tp : tupleD [.list ls] = some (.v (.tuple ls)) := rfl
    have body : q_l_lead_2 [some (.o d), some (.v r.d), F, N, some (.v (.int ho)), some (.v (.int most)), some (.v x.d), some (.o (.list ts)), some (.o (.list lv)), some (.v (.int own)), some (.v e0), o11, o12, o13, o14, o15] =
        some (.nx, [some (.o d2), some (.v r.d), F, N, some (.v (.int ho)), some (.v (.int most)), some (.v y.d), some (.o (.list (ts ++ [.tuple ls]))), some (.o (.list (lv ++ [y.d]))), some (.v (.int own2)), some (.v e0), some (.o (.list ls)), t12, t13, t14, t15]) := by
      (first | (simp (implicitDefEqProofs := false) [-x_rng1, q_l_lead_2, tr, e1, rg, f1, tp, l1, l2]; done) | simp [-x_rng1, q_l_lead_2, tr, e1, rg, f1, tp, l1, l2])
    rw [body]; rfl
theorem lead_run {r : Ru} (hr : r.Ok) {first : Li} (hf : first.Ok r) {days : Nat} (hdy : days ≤ 12) {ho most : Int} (hh : House ho) {d : D} (hd : Well d) :
    ∃ (ts lv : List D) (x : Li) (d' : D), F_l_lead.run [d, r.d, first.d, .int (days : Int), .int ho, .int most] = some (.v (.tuple [.tuple ts, .list lv]), [d']) ∧ TruthOk r first x ts ∧ ts.length = days ∧ Well d' := by
  have lu : (Z.upTo 0 days).length = days := by unfold Z.upTo; rw [List.length_map, List.length_range]
  obtain ⟨d', x', ts', lv', own', u10, u11, u12, u13, u14, u15, h1, h2, h3, h4⟩ := lead_days hr (some (.v first.d)) (some (.v (.int (days : Int)))) (most := most) hh first (Z.upTo 0 days) d first [] [first.d] 0 none none none none none none hd ⟨rfl, rfl, rfl, hf, fun d hd => by cases hd⟩ (by rw [lu]; simp; omega) (by rw [lu]; simp; omega)
  rw [lu, List.length_nil, Nat.zero_add] at h4
  refine ⟨ts', lv', x', d', ?_, h3, h4, h2⟩
  have rg : rng1 [.int (days : Int)] = some (Z.upTo 0 days) := x_rng1 (j := (days : Int)) (by omega) (by omega)
  have tp : tupleD [.list ts'] = some (.v (.tuple ts')) := rfl
  rw [u_l_lead, x_run _ _ _ _ rfl, b_l_lead]
  (first | (simp (implicitDefEqProofs := false) [-x_rng1, rg, h1, tp]; done) | simp [-x_rng1, rg, h1, tp])
theorem truth_yes {r : Ru} {x0 x : Li} {ts : List D} (h : TruthOk r x0 x ts) {n : Int} (hn : (ts.length : Int) = n) : truthB r x0 n (.tuple ts) = true := by
  show (decide ((ts.length : Int) = n) && (ts.all isT && (ts.all (fun d => (itemsOf d).all cameB) && (alongL r ts x0).isSome))) = true
  rw [h.tup, h.came, h.along, decide_eq_true hn]; rfl
end K18
namespace K18
open PySem PySem.Spec L2 Z
open PyProof.Rows hiding St

/-! ## things that are not too wide -/
def w2 (v : D) : Bool := decide ((itemsOf v).length ≤ 300) && (itemsOf v).all fun e => decide ((itemsOf e).length ≤ 300)
theorem flat_len : ∀ l : List D, (∀ e ∈ l, (itemsOf e).length ≤ 300) → (l.flatMap itemsOf).length ≤ l.length * 300
  | [], _ => by simp
  | d :: l, h => by
    have a := h d List.mem_cons_self
    have b := flat_len l fun e he => h e (List.mem_cons_of_mem _ he)
    rw [List.flatMap_cons, List.length_append, List.length_cons]
    omega
theorem w2_nar {v : D} (h : w2 v = true) : Nar v := by
  unfold w2 at h
  rw [Bool.and_eq_true, decide_eq_true_eq, List.all_eq_true] at h
  have := flat_len (itemsOf v) fun e he => of_decide_eq_true (h.2 e he)
  unfold Nar
  omega
theorem w2_of {L : List D} (h1 : L.length ≤ 300) (h2 : ∀ e ∈ L, (itemsOf e).length ≤ 300) : w2 (.tuple L) = true := by
  show (decide (L.length ≤ 300) && L.all fun e => decide ((itemsOf e).length ≤ 300)) = true
  rw [Bool.and_eq_true, List.all_eq_true]
  exact ⟨decide_eq_true h1, fun e he => decide_eq_true (h2 e he)⟩
theorem w2_len {v : D} (h : w2 v = true) : (itemsOf v).length ≤ 300 := by
  unfold w2 at h
  rw [Bool.and_eq_true, decide_eq_true_eq] at h
  exact h.1
def oddL : List D := [.none, .bool true, .bool false, .int 0, .int 1, .int 3, .int 4, .int (-1), .str "", .str "lock", .str "done", .str "refused", .str "renew", .str "asked", .tuple [], .tuple [.tuple []], .list [], .dict (dcD []), .tuple [.int 0, .str "lock"],
  .tuple [.int 0, .str "lock", .str "done"], .tuple [.tuple [.int 0, .str "lock", .str "refused"]], .tuple [.int 0, .str "guess", .str "done"], .tuple [.int 0, .str "guess", .str "refused"]]
theorem odd_w2 : ∀ x ∈ oddL, w2 x = true := List.all_eq_true.mp (show (oddL.all w2) = true from rfl)
theorem odd_run {d : D} (hd : Well d) : ∃ (x d' : D), F_l_odd.run [d] = some (.v x, [d']) ∧ Well d' ∧ w2 x = true := by
  obtain ⟨x, d1, h1, hx, w1⟩ := of_well (ds := oddL) hd (by decide) (by decide)
  refine ⟨x, d1, ?_, w1, odd_w2 x hx⟩
  rw [u_l_odd, x_run _ _ _ _ rfl, b_l_odd]
  unfold oddL at h1
  (first | (simp (implicitDefEqProofs := false) [eDic, h1]; done) | simp [eDic, h1])
/-! ## bent things -/
def th : Nat → D → Bool
  | _, .none => true
  | _, .bool _ => true
  | _, .int i => true
  | _, .str _ => true
  | k + 1, .tuple ds => decide (ds.length ≤ 100) && ds.all (th k)
  | _, _ => false
theorem th_items : ∀ {k : Nat} {d : D}, th k d = true → (itemsOf d).length ≤ 100
  | 0, d, h => by
    cases d <;> first
      | exact Nat.zero_le _
      | cases h
  | k + 1, d, h => by
    cases d with
    | tuple ds =>
      have h : (decide (ds.length ≤ 100) && ds.all (th k)) = true := h
      rw [Bool.and_eq_true, decide_eq_true_eq] at h
      exact h.1
    | _ => exact Nat.zero_le _
theorem cut_len (ds : List D) (lo hi : Option Int) : (cut ds lo hi).length ≤ ds.length := by unfold cut; rw [List.length_take, List.length_drop]; omega
theorem mem_cut {ds : List D} {lo hi : Option Int} {x : D} (h : x ∈ cut ds lo hi) : x ∈ ds := List.mem_of_mem_drop (List.mem_of_mem_take h)
theorem bent_flat (me : FnS) {d thing : D} (hw : Well d) (ht : ∀ ds, thing ≠ .tuple ds) :
    ∃ (rv : RV) (d' : D), runF 4 [true, false] (b_l_bent me) [d, thing] = some (rv, [d']) ∧ Well d' ∧ w2 rv.d = true := by
  obtain ⟨way, d1, e1, w0, w1, q1⟩ := take_well (m := 9) hw (by decide) (by decide)
  obtain ⟨x, d3, e3, q3, q4⟩ := odd_run q1
  refine ⟨.v x, d3, ?_, q3, q4⟩
  rw [x_run _ _ _ _ rfl, b_l_bent]
  cases thing with
  | tuple ds => exact absurd rfl (ht ds)
  | _ => (first | (simp (implicitDefEqProofs := false) [e1, e3]; done) | simp [e1, e3])
theorem bent_tup (me : FnS) (hm : me.mask = [true, false]) {d : D} {ds : List D} (hw : Well d) (hl : ds.length ≤ 100) (hi : ∀ e ∈ ds, (itemsOf e).length ≤ 100) (ih : ∀ (x d : D), x ∈ ds → Well d → ∃ (rv : RV) (d' : D), me.run [d, x] = some (rv, [d']) ∧ Well d' ∧ w2 rv.d = true) :
    ∃ (rv : RV) (d' : D), runF 4 [true, false] (b_l_bent me) [d, .tuple ds] = some (rv, [d']) ∧ Well d' ∧ w2 rv.d = true := by
  obtain ⟨way, d1, e1, w0, w1, q1⟩ := take_well (m := 9) hw (by decide) (by decide)
  cases hs : ds.isEmpty with
  | true =>
    obtain ⟨x, d3, e3, q3, q4⟩ := odd_run q1
    refine ⟨.v x, d3, ?_, q3, q4⟩
    rw [x_run _ _ _ _ rfl, b_l_bent]
    (first | (simp (implicitDefEqProofs := false) [-List.isEmpty_iff, e1, hs, e3]; done) | simp [-List.isEmpty_iff, e1, hs, e3])
  | false =>
    have hp : 0 < ds.length := by
      cases ds with
      | nil => cases hs
      | cons x xs => simp
    by_cases c0 : way = 0
    · obtain ⟨x, d3, e3, q3, q4⟩ := odd_run q1
      refine ⟨.v x, d3, ?_, q3, q4⟩
      rw [x_run _ _ _ _ rfl, b_l_bent]
      (first | (simp (implicitDefEqProofs := false) [-List.isEmpty_iff, e1, hs, c0, e3]; done) | simp [-List.isEmpty_iff, e1, hs, c0, e3])
    · obtain ⟨at', d2, e2, a0, a1, q2⟩ := take_well (m := (ds.length : Int)) q1 (by omega) (by omega)
      obtain ⟨x, e4, hx⟩ := at_mem a0 a1
      have l1 := cut_len ds none (some at')
      have l2 := cut_len ds (some (at' + 1)) none
      have l3 := cut_len ds (some at') none
      have hi2 : ∀ e ∈ ds, (itemsOf e).length ≤ 300 := fun e he => by have := hi e he; omega
      by_cases c1 : way = 1
      · have s1 : addD (.tuple (cut ds none (some at'))) (.tuple (cut ds (some (at' + 1)) none)) = some (.v (.tuple (cut ds none (some at') ++ cut ds (some (at' + 1)) none))) := x_addT (by omega)
        refine ⟨.v (.tuple (cut ds none (some at') ++ cut ds (some (at' + 1)) none)), d2, ?_, q2, w2_of (by rw [List.length_append]; omega) fun e he => ?_⟩
        · rw [x_run _ _ _ _ rfl, b_l_bent]
          (first | (simp (implicitDefEqProofs := false) [-List.isEmpty_iff, -x_addTs, e1, hs, c1, e2, s1]; done) | simp [-List.isEmpty_iff, -x_addTs, e1, hs, c1, e2, s1])
        · rcases List.mem_append.mp he with he | he <;> exact hi2 e (mem_cut he)
      · by_cases c2 : way = 2
        · have s1 : addD (.tuple (cut ds none (some at'))) (.tuple [x]) = some (.v (.tuple (cut ds none (some at') ++ [x]))) := x_addT (by rw [List.length_singleton]; omega)
          have s2 : addD (.tuple (cut ds none (some at') ++ [x])) (.tuple (cut ds (some at') none)) = some (.v (.tuple (cut ds none (some at') ++ [x] ++ cut ds (some at') none))) := x_addT (by rw [List.length_append, List.length_singleton]; omega)
          refine ⟨.v (.tuple (cut ds none (some at') ++ [x] ++ cut ds (some at') none)), d2, ?_, q2, w2_of (by rw [List.length_append, List.length_append, List.length_singleton]; omega) fun e he => ?_⟩
          · rw [x_run _ _ _ _ rfl, b_l_bent]
            (first | (simp (implicitDefEqProofs := false) [-List.isEmpty_iff, -x_addTs, -List.append_assoc, e1, hs, c2, e2, e4, s1, s2]; done) | simp [-List.isEmpty_iff, -x_addTs, -List.append_assoc, e1, hs, c2, e2, e4, s1, s2])
          · rcases List.mem_append.mp he with he | he
            · rcases List.mem_append.mp he with he | he
              · exact hi2 e (mem_cut he)
              · rw [List.mem_singleton.mp he]; exact hi2 x hx
            · exact hi2 e (mem_cut he)
        · by_cases c3 : way = 3
          · obtain ⟨z, d3, e3, z0, z1, q3⟩ := take_well (m := 2) q2 (by decide) (by decide)
            have r1 : revD (.tuple ds) = some (.v (.tuple ds.reverse)) := rfl
            have r2 : listD [.tuple ds] = some (.o (.list ds)) := rfl
            by_cases c4 : z = 0
            · refine ⟨.v (.tuple ds.reverse), d3, ?_, q3, w2_of (by rw [List.length_reverse]; omega) fun e he => hi2 e (List.mem_reverse.mp he)⟩
              rw [x_run _ _ _ _ rfl, b_l_bent]
              (first | (simp (implicitDefEqProofs := false) [-List.isEmpty_iff, e1, hs, c3, e2, e3, c4, r1]; done) | simp [-List.isEmpty_iff, e1, hs, c3, e2, e3, c4, r1])
            · refine ⟨.o (.list ds), d3, ?_, q3, rfl⟩
              rw [x_run _ _ _ _ rfl, b_l_bent]
              (first | (simp (implicitDefEqProofs := false) [-List.isEmpty_iff, e1, hs, c3, e2, e3, c4, r2]; done) | simp [-List.isEmpty_iff, e1, hs, c3, e2, e3, c4, r2])
          · obtain ⟨rv, d3, e3, q3, q4⟩ := ih x d2 hx q2
            have s1 : addD (.tuple (cut ds none (some at'))) (.tuple [rv.d]) = some (.v (.tuple (cut ds none (some at') ++ [rv.d]))) := x_addT (by rw [List.length_singleton]; omega)
            have s2 : addD (.tuple (cut ds none (some at') ++ [rv.d])) (.tuple (cut ds (some (at' + 1)) none)) = some (.v (.tuple (cut ds none (some at') ++ [rv.d] ++ cut ds (some (at' + 1)) none))) := x_addT (by rw [List.length_append, List.length_singleton]; omega)
            refine ⟨.v (.tuple (cut ds none (some at') ++ [rv.d] ++ cut ds (some (at' + 1)) none)), d3, ?_, q3, w2_of (by rw [List.length_append, List.length_append, List.length_singleton]; omega) fun e he => ?_⟩
            · rw [x_run _ _ _ _ rfl, b_l_bent]
              (first | (simp (implicitDefEqProofs := false) [-List.isEmpty_iff, -x_addTs, -List.append_assoc, hm, e1, hs, c0, c1, c2, c3, e2, e4, e3, s1, s2]; done) | simp [-List.isEmpty_iff, -x_addTs, -List.append_assoc, hm, e1, hs, c0, c1, c2, c3, e2, e4, e3, s1, s2])
            · rcases List.mem_append.mp he with he | he
              · rcases List.mem_append.mp he with he | he
                · exact hi2 e (mem_cut he)
                · rw [List.mem_singleton.mp he]; exact w2_len q4
              · exact hi2 e (mem_cut he)
theorem bent_run : ∀ (k : Nat) (d thing : D), th k thing = true → Well d → ∃ (rv : RV) (d' : D), R_l_bent (k + 1) [d, thing] = some (rv, [d']) ∧ Well d' ∧ w2 rv.d = true
  | 0, d, thing, h, hw => by
    rw [R_l_bent]
    exact bent_flat _ hw fun ds e => by subst e; cases h
  | k + 1, d, thing, h, hw => by
    rw [R_l_bent]
    cases thing with
    | tuple ds =>
      have h : (decide (ds.length ≤ 100) && ds.all (th k)) = true := h
      rw [Bool.and_eq_true, decide_eq_true_eq, List.all_eq_true] at h
      exact bent_tup ⟨[true, false], R_l_bent (k + 1)⟩ rfl hw h.1 (fun e he => th_items (h.2 e he)) fun x d hx hd => bent_run k d x (h.2 x hx) hd
    | _ => exact bent_flat _ hw fun ds e => by cases e
theorem th_came {d : D} (h : cameB d = true) : th 3 d = true := by
  obtain ⟨i, e, t, rfl, _⟩ := came_get h
  rfl
theorem th_truth {r : Ru} {x0 x : Li} {ts : List D} (h : TruthOk r x0 x ts) (hl : ts.length ≤ 12) : th 5 (.tuple ts) = true := by
  show (decide (ts.length ≤ 100) && ts.all (th 4)) = true
  rw [decide_eq_true (show ts.length ≤ 100 by omega), Bool.true_and]
  refine List.all_eq_true.mpr fun d hd => ?_
  have a := List.all_eq_true.mp h.tup d hd
  have b := List.all_eq_true.mp h.came d hd
  have c := h.nar d hd
  cases d with
  | tuple es =>
    show (decide (es.length ≤ 100) && es.all (th 3)) = true
    have c : es.length ≤ 3 := c
    rw [decide_eq_true (show es.length ≤ 100 by omega), Bool.true_and]
    exact List.all_eq_true.mpr fun e he => th_came (List.all_eq_true.mp b e he)
  | _ => cases a
theorem bent_truth {r : Ru} {x0 x : Li} {ts : List D} (h : TruthOk r x0 x ts) (hl : ts.length ≤ 12) {d : D} (hd : Well d) : ∃ (rv : RV) (d' : D), F_l_bent.run [d, .tuple ts] = some (rv, [d']) ∧ Well d' ∧ w2 rv.d = true := by
  rw [u_l_bent]
  exact bent_run 5 d (.tuple ts) (th_truth h hl) hd
end K18
namespace K18
open PySem PySem.Spec L2 Z
open PyProof.Rows hiding St

/-! ## a truth with one letter changed -/
theorem nd_came : ∀ es : List D, es.all cameB = true → noDicts es = true
  | [], _ => rfl
  | e :: es, h => by
    rw [List.all_cons, Bool.and_eq_true] at h
    obtain ⟨i, d, t, rfl, _⟩ := came_get h.1
    show (noDict (.tuple [.int i, .str d.s, .str t]) && noDicts es) = true
    rw [nd_came es h.2]; rfl
theorem dp_came : ∀ es : List D, es.all cameB = true → PyData.depthAll es ≤ 3
  | [], _ => by rw [PyData.depthAll]; omega
  | e :: es, h => by
    rw [List.all_cons, Bool.and_eq_true] at h
    obtain ⟨i, d, t, rfl, _⟩ := came_get h.1
    have a := dp_came es h.2
    have b : (PyData.tuple [.int i, .str d.s, .str t]).depth ≤ 3 := by (first | (simp (implicitDefEqProofs := false) [PyData.depth, PyData.depthAll]; done) | simp [PyData.depth, PyData.depthAll])
    rw [PyData.depthAll]
    omega
theorem ne_row {es : List D} (h : es.all cameB = true) : neD (.tuple es) (.tuple []) = some (.v (.bool (!es.isEmpty))) := by
  have a := nd_came es h
  have b := dp_came es h
  have ok : okE (.tuple es) = true := by
    unfold okE
    rw [Bool.and_eq_true]
    refine ⟨a, decide_eq_true ?_⟩
    rw [PyData.depth]
    omega
  unfold neD
  rw [ok]
  cases es with
  | nil => rfl
  | cons x xs => show bl (!PyData.eqv (.tuple (x :: xs)) (.tuple [])) = _; unfold PyData.eqv PyData.eqvAll; rfl
theorem eq_ints : ∀ is : List Int, eqD (.list (is.map .int)) (.list []) = some (.v (.bool is.isEmpty)) := fun is => by
  have nd : ∀ is : List Int, noDicts (is.map .int) = true := fun is => by
    induction is with
    | nil => rfl
    | cons i is ih => show (noDict (.int i) && noDicts (is.map .int)) = true; rw [ih]; rfl
  have dp : ∀ is : List Int, PyData.depthAll (is.map .int) ≤ 3 := fun is => by
    induction is with
    | nil => rw [List.map_nil, PyData.depthAll]; omega
    | cons i is ih =>
      have b : (PyData.int i).depth ≤ 3 := by (first | (simp (implicitDefEqProofs := false) [PyData.depth]; done) | simp [PyData.depth])
      rw [List.map_cons, PyData.depthAll]; omega
  have a := nd is
  have b := dp is
  have ok : okE (.list (is.map .int)) = true := by
    unfold okE
    rw [Bool.and_eq_true]
    refine ⟨a, decide_eq_true ?_⟩
    rw [PyData.depth]
    omega
  unfold eqD
  rw [ok]
  cases is with
  | nil => rfl
  | cons x xs => show bl (PyData.eqv (.list (.int x :: xs.map .int)) (.list [])) = _; unfold PyData.eqv PyData.eqvAll; rfl
/-- a day with letters -/
def DayAt (ts : List D) (i : Int) : Prop := 0 ≤ i ∧ ∃ es : List D, atI ts i = some (.tuple es) ∧ es ≠ []
theorem at_truth {r : Ru} {x0 x : Li} {ts : List D} (h : TruthOk r x0 x ts) {i : Int} (i0 : 0 ≤ i) (i1 : i < ts.length) : ∃ es : List D, atI ts i = some (.tuple es) ∧ .tuple es ∈ ts ∧ es.all cameB = true ∧ es.length ≤ 3 := by
  obtain ⟨d, e, hd⟩ := at_mem i0 i1
  have a := List.all_eq_true.mp h.tup d hd
  have b := List.all_eq_true.mp h.came d hd
  have c := h.nar d hd
  cases d with
  | tuple es => exact ⟨es, e, hd, b, c⟩
  | _ => cases a
theorem days_lc {r : Ru} {x0 x : Li} {ts : List D} (h : TruthOk r x0 x ts) (h12 : ts.length ≤ 12) (d : D) : ∃ (is : List Int), lcL [3] (gN [] 3) q_l_swapped_1 q_l_swapped_2 (Z.upTo 0 ts.length) [some (.o d), some (.v (.tuple ts)), none, none, none, none, none, none, none, none] [] = some (is.map .int, [some (.o d), some (.v (.tuple ts)), none, none, none, none, none, none, none, none]) ∧
    (∀ i ∈ is, DayAt ts i ∧ i < ts.length) ∧ is.length ≤ ts.length := by
  have lu : (Z.upTo 0 ts.length).length = ts.length := by unfold Z.upTo; rw [List.length_map, List.length_range]
  obtain ⟨acc, ρ', h1, _, is, rfl, h2, h3, rfl⟩ := lcL_st (vs := [3]) (g := gN [] 3) (t := q_l_swapped_1) (f := q_l_swapped_2) (I := fun ds acc ρ => (∀ e ∈ ds, ∃ i : Int, e = .int i ∧ 0 ≤ i ∧ i < ts.length) ∧ ∃ is : List Int, acc = is.map .int ∧ (∀ i ∈ is, DayAt ts i ∧ i < ts.length) ∧ is.length + ds.length ≤ ts.length ∧ ρ = [some (.o d), some (.v (.tuple ts)), none, none, none, none, none, none, none, none])
    (fun e ds acc ρ hI => by
      obtain ⟨hm, is, rfl, hi, hl, rfl⟩ := hI
      obtain ⟨i, rfl, i0, i1⟩ := hm e List.mem_cons_self
      obtain ⟨es, e1, _, e3, _⟩ := at_truth h i0 i1
      have ne := ne_row e3
      rw [List.length_cons] at hl
      cases hs : es.isEmpty with
      | true =>
        rw [hs] at ne
        exact ⟨[some (.o d), some (.v (.tuple ts)), none, some (.v (.int i)), none, none, none, none, none, none], [some (.o d), some (.v (.tuple ts)), none, some (.v (.int i)), none, none, none, none, none, none], false, by simp, by (first | (simp (implicitDefEqProofs := false) [q_l_swapped_1, e1, ne]; done) | simp [q_l_swapped_1, e1, ne]), fun e he => hm e (List.mem_cons_of_mem _ he), is, rfl, hi, by omega, by simp⟩
      | false =>
        rw [hs] at ne
        refine ⟨[some (.o d), some (.v (.tuple ts)), none, some (.v (.int i)), none, none, none, none, none, none], [some (.o d), some (.v (.tuple ts)), none, some (.v (.int i)), none, none, none, none, none, none], true, by simp, by (first | (simp (implicitDefEqProofs := false) [q_l_swapped_1, e1, ne]; done) | simp [q_l_swapped_1, e1, ne]), .v (.int i), [some (.o d), some (.v (.tuple ts)), none, some (.v (.int i)), none, none, none, none, none, none], by (first | (simp (implicitDefEqProofs := false) [q_l_swapped_2]; done) | simp [q_l_swapped_2]), ?_, fun e he => hm e (List.mem_cons_of_mem _ he), is ++ [i], by rw [List.map_append]; rfl, fun j hj => ?_, by rw [List.length_append, List.length_singleton]; omega, by simp⟩
        · rw [List.length_map]; omega
        · rcases List.mem_append.mp hj with hj | hj
          · exact hi j hj
          · rw [List.mem_singleton.mp hj]
            exact ⟨⟨i0, es, e1, fun e => by rw [e] at hs; cases hs⟩, i1⟩) (Z.upTo 0 ts.length) [] _ ⟨fun e he => by
      unfold Z.upTo at he
      obtain ⟨k, hk, e⟩ := List.mem_map.mp he
      have := List.mem_range.mp hk
      exact ⟨_, e.symm, by omega, by omega⟩, [], rfl, (fun i h => by cases h), by rw [lu]; simp, rfl⟩
  exact ⟨is, h1, h2, by simpa using h3⟩
theorem swapped_run {r : Ru} {x0 x : Li} {ts : List D} (h : TruthOk r x0 x ts) (h12 : ts.length ≤ 12) {d : D} (hd : Well d) : ∃ (v d' : D), F_l_swapped.run [d, .tuple ts] = some (.v v, [d']) ∧ Well d' ∧ w2 v = true := by
  obtain ⟨is, lc, hi, hl⟩ := days_lc h h12 d
  have rg : rng1 [.int (ts.length : Int)] = some (Z.upTo 0 ts.length) := x_rng1 (j := (ts.length : Int)) (by omega) (by omega)
  have eq := eq_ints is
  have nar : ∀ e ∈ ts, (itemsOf e).length ≤ 300 := fun e he => by have := h.nar e he; omega
  rw [u_l_swapped]
  cases hs : is.isEmpty with
  | true =>
    rw [hs] at eq
    have s1 : addD (.tuple ts) (.tuple [.tuple []]) = some (.v (.tuple (ts ++ [.tuple []]))) := x_addT (by rw [List.length_singleton]; omega)
    refine ⟨.tuple (ts ++ [.tuple []]), d, ?_, hd, w2_of (by rw [List.length_append, List.length_singleton]; omega) fun e he => ?_⟩
    · rw [x_run _ _ _ _ rfl, b_l_swapped]
      (first | (simp (implicitDefEqProofs := false) [-x_rng1, -x_addTs, rg, lc, eq, s1]; done) | simp [-x_rng1, -x_addTs, rg, lc, eq, s1])
    · rcases List.mem_append.mp he with he | he
      · exact nar e he
      · rw [List.mem_singleton.mp he]; exact Nat.zero_le _
  | false =>
    rw [hs] at eq
    have hp : 0 < (is.map PyData.int).length := by
      cases is with
      | nil => cases hs
      | cons i is => simp
    obtain ⟨y, d1, e1, hy, w1⟩ := of_wellL (ds := is.map .int) hd hp (by rw [List.length_map]; omega)
    obtain ⟨i, hi2, rfl⟩ := List.mem_map.mp hy
    obtain ⟨⟨i0, es, a1, ne⟩, i1⟩ := hi i hi2
    obtain ⟨es', a2, m2, c2, l2⟩ := at_truth h i0 i1
    rw [a1] at a2
    cases a2
    have ep : 0 < es.length := by
      cases es with
      | nil => exact absurd rfl ne
      | cons e es => simp
    obtain ⟨at', d2, e2, b0, b1, w2'⟩ := take_well (m := (es.length : Int)) w1 (by omega) (by omega)
    obtain ⟨l, a3, hl3⟩ := at_mem b0 b1
    obtain ⟨ho, de, t, rfl, hh⟩ := came_get (List.all_eq_true.mp c2 l hl3)
    obtain ⟨way, d3, e3, y0, y1, w3⟩ := take_well (m := 4) w2' (by decide) (by decide)
    have k1 := cut_len ts none (some i)
    have k2 := cut_len ts (some (i + 1)) none
    have k3 := cut_len ts (some i) (some (i + 1))
    have k4 := cut_len ts (some (i + 2)) none
    have j1 := cut_len es none (some at')
    have j2 := cut_len es (some (at' + 1)) none
    -- the row with the new letter, the truth with the new row
    have fin : ∀ new : D, addD (.tuple (cut es none (some at'))) (.tuple [new]) = some (.v (.tuple (cut es none (some at') ++ [new]))) ∧
        addD (.tuple (cut es none (some at') ++ [new])) (.tuple (cut es (some (at' + 1)) none)) = some (.v (.tuple (cut es none (some at') ++ [new] ++ cut es (some (at' + 1)) none))) ∧
        (∀ row : D, addD (.tuple (cut ts none (some i))) (.tuple [row]) = some (.v (.tuple (cut ts none (some i) ++ [row]))) ∧
          addD (.tuple (cut ts none (some i) ++ [row])) (.tuple (cut ts (some (i + 1)) none)) = some (.v (.tuple (cut ts none (some i) ++ [row] ++ cut ts (some (i + 1)) none)))) ∧
        w2 (.tuple (cut ts none (some i) ++ [.tuple (cut es none (some at') ++ [new] ++ cut es (some (at' + 1)) none)] ++ cut ts (some (i + 1)) none)) = true := by
      intro new
      refine ⟨x_addT (by rw [List.length_singleton]; omega), x_addT (by rw [List.length_append, List.length_singleton]; omega), fun row => ⟨x_addT (by rw [List.length_singleton]; omega), x_addT (by rw [List.length_append, List.length_singleton]; omega)⟩, w2_of (by rw [List.length_append, List.length_append, List.length_singleton]; omega) fun e he => ?_⟩
      rcases List.mem_append.mp he with he | he
      · rcases List.mem_append.mp he with he | he
        · exact nar e (mem_cut he)
        · rw [List.mem_singleton.mp he]
          show (cut es none (some at') ++ [new] ++ cut es (some (at' + 1)) none).length ≤ 300
          rw [List.length_append, List.length_append, List.length_singleton]; omega
      · exact nar e (mem_cut he)
    by_cases q0 : way = 0
    · subst q0
      obtain ⟨f1, f2, f3, f4⟩ := fin (.tuple [.int ((ho + 1) % 4), .str de.s, .str t])
      obtain ⟨f5, f6⟩ := f3 (.tuple (cut es none (some at') ++ [.tuple [.int ((ho + 1) % 4), .str de.s, .str t]] ++ cut es (some (at' + 1)) none))
      refine ⟨_, d3, ?_, w3, f4⟩
      rw [x_run _ _ _ _ rfl, b_l_swapped]
      (first | (simp (implicitDefEqProofs := false) [-x_rng1, -x_addTs, -List.append_assoc, rg, lc, eq, e1, a1, e2, a3, e3, f1, f2, f5, f6]; done) | simp [-x_rng1, -x_addTs, -List.append_assoc, rg, lc, eq, e1, a1, e2, a3, e3, f1, f2, f5, f6])
    · by_cases q1 : way = 1
      · subst q1
        obtain ⟨y, d4, e4, hy, w4⟩ := of_well (ds := [.str "renew", .str "lock", .str "unlock", .str "code", .str "take", .str "guess", .str "agree", .str "refuse", .str "delete"]) w3 (by simp) (by simp)
        obtain ⟨f1, f2, f3, f4⟩ := fin (.tuple [.int ho, y, .str t])
        obtain ⟨f5, f6⟩ := f3 (.tuple (cut es none (some at') ++ [.tuple [.int ho, y, .str t]] ++ cut es (some (at' + 1)) none))
        refine ⟨_, d4, ?_, w4, f4⟩
        rw [x_run _ _ _ _ rfl, b_l_swapped]
        (first | (simp (implicitDefEqProofs := false) [-x_rng1, -x_addTs, -List.append_assoc, rg, lc, eq, e1, a1, e2, a3, e3, e4, f1, f2, f5, f6]; done) | simp [-x_rng1, -x_addTs, -List.append_assoc, rg, lc, eq, e1, a1, e2, a3, e3, e4, f1, f2, f5, f6])
      · by_cases q2 : way = 2
        · subst q2
          obtain ⟨f1, f2, f3, f4⟩ := fin (.tuple [.int ho, .str de.s, .str (if t = "refused" then "done" else "refused")])
          obtain ⟨f5, f6⟩ := f3 (.tuple (cut es none (some at') ++ [.tuple [.int ho, .str de.s, .str (if t = "refused" then "done" else "refused")]] ++ cut es (some (at' + 1)) none))
          refine ⟨_, d3, ?_, w3, f4⟩
          rw [x_run _ _ _ _ rfl, b_l_swapped]
          by_cases ct : t = "refused"
          · subst ct
            simp only [if_true] at f1 f2 f5 f6 ⊢
            (first | (simp (implicitDefEqProofs := false) [-x_rng1, -x_addTs, -List.append_assoc, rg, lc, eq, e1, a1, e2, a3, e3, f1, f2, f5, f6]; done) | simp [-x_rng1, -x_addTs, -List.append_assoc, rg, lc, eq, e1, a1, e2, a3, e3, f1, f2, f5, f6])
          · simp only [ct, if_false] at f1 f2 f5 f6 ⊢
            (first | (simp (implicitDefEqProofs := false) [-x_rng1, -x_addTs, -List.append_assoc, rg, lc, eq, e1, a1, e2, a3, e3, ct, f1, f2, f5, f6]; done) | simp [-x_rng1, -x_addTs, -List.append_assoc, rg, lc, eq, e1, a1, e2, a3, e3, ct, f1, f2, f5, f6])
        · by_cases cc : i + 1 < (ts.length : Int)
          · have s1 : addD (.tuple (cut ts none (some i))) (.tuple [.tuple []]) = some (.v (.tuple (cut ts none (some i) ++ [.tuple []]))) := x_addT (by rw [List.length_singleton]; omega)
            have s2 : addD (.tuple (cut ts none (some i) ++ [.tuple []])) (.tuple (cut ts (some i) (some (i + 1)))) = some (.v (.tuple (cut ts none (some i) ++ [.tuple []] ++ cut ts (some i) (some (i + 1))))) := x_addT (by rw [List.length_append, List.length_singleton]; omega)
            have s3 : addD (.tuple (cut ts none (some i) ++ [.tuple []] ++ cut ts (some i) (some (i + 1)))) (.tuple (cut ts (some (i + 2)) none)) = some (.v (.tuple (cut ts none (some i) ++ [.tuple []] ++ cut ts (some i) (some (i + 1)) ++ cut ts (some (i + 2)) none))) := x_addT (by rw [List.length_append, List.length_append, List.length_singleton]; omega)
            refine ⟨.tuple (cut ts none (some i) ++ [.tuple []] ++ cut ts (some i) (some (i + 1)) ++ cut ts (some (i + 2)) none), d3, ?_, w3, w2_of (by rw [List.length_append, List.length_append, List.length_append, List.length_singleton]; omega) fun e he => ?_⟩
            · rw [x_run _ _ _ _ rfl, b_l_swapped]
              (first | (simp (implicitDefEqProofs := false) [-x_rng1, -x_addTs, -List.append_assoc, rg, lc, eq, e1, a1, e2, a3, e3, q0, q1, q2, cc, s1, s2, s3]; done) | simp [-x_rng1, -x_addTs, -List.append_assoc, rg, lc, eq, e1, a1, e2, a3, e3, q0, q1, q2, cc, s1, s2, s3])
            · rcases List.mem_append.mp he with he | he
              · rcases List.mem_append.mp he with he | he
                · rcases List.mem_append.mp he with he | he
                  · exact nar e (mem_cut he)
                  · rw [List.mem_singleton.mp he]; exact Nat.zero_le _
                · exact nar e (mem_cut he)
              · exact nar e (mem_cut he)
          · have rv : revD (.tuple ts) = some (.v (.tuple ts.reverse)) := rfl
            refine ⟨.tuple ts.reverse, d3, ?_, w3, w2_of (by rw [List.length_reverse]; omega) fun e he => nar e (List.mem_reverse.mp he)⟩
            rw [x_run _ _ _ _ rfl, b_l_swapped]
            (first | (simp (implicitDefEqProofs := false) [-x_rng1, -x_addTs, rg, lc, eq, e1, a1, e2, a3, e3, q0, q1, q2, cc, rv]; done) | simp [-x_rng1, -x_addTs, rg, lc, eq, e1, a1, e2, a3, e3, q0, q1, q2, cc, rv])
end K18
namespace K18
open PySem PySem.Spec L2 Z
open PyProof.Rows hiding St

/-! ## the law -/
theorem lifeB_ok {r : Ru} {x : Li} (h : x.Ok r) : lifeB r x.d = true := by
  cases x with
  | free => rfl
  | wait n =>
    show (waitB r.wait [.int n]) = true
    exact decide_eq_true h
  | grace ho n =>
    show (numB (.int ho) 0 3 && numB (.int n) 1 r.grace) = true
    rw [Bool.and_eq_true]
    exact ⟨decide_eq_true h.1, decide_eq_true h.2⟩
  | hold ho n =>
    show (numB (.int ho) 0 3 && numB (.int n) 1 r.hold) = true
    rw [Bool.and_eq_true]
    exact ⟨decide_eq_true h.1, decide_eq_true h.2⟩
  | held ho left age l c a =>
    obtain ⟨h1, h2, h3, h4, h5, h6⟩ := h
    show (numB (.int ho) 0 3 && numB (.int left) 1 (2 * r.term) && numB (.int age) 0 r.top && true && true && askB r (.int ho) (askD a)) = true
    simp only [Bool.and_eq_true]
    refine ⟨⟨⟨⟨⟨decide_eq_true h1, decide_eq_true ⟨h2, h3⟩⟩, decide_eq_true ⟨h4, h5⟩⟩, trivial⟩, trivial⟩, ?_⟩
    cases a with
    | none => rfl
    | some p =>
      obtain ⟨g, n⟩ := p
      obtain ⟨q1, q2, q3⟩ := h6
      show (numB (.int g) 0 3 && !decide (g = ho) && numB (.int n) 1 r.ask) = true
      rw [decide_eq_false q2]
      simp only [Bool.and_eq_true]
      exact ⟨⟨decide_eq_true q1, rfl⟩, decide_eq_true q3⟩
def vwD (ho : Int) (x : Li) (n : Int) : D := .tuple [.int ho, x.d, .int n, .tuple [], .tuple []]
theorem vw_ok {r : Ru} {ho n : Int} {x : Li} (hh : House ho) (hx : x.Ok r) (n0 : 0 ≤ n) (n1 : n ≤ 12) : viewB r (vwD ho x n) = true := by
  show (numB (.int ho) 0 3 && lifeB r x.d && numB (.int n) 0 12 && sentsB n (.tuple []) && seensB n (.tuple [])) = true
  have a1 : sentsB n (.tuple []) = true := rfl
  have a2 : seensB n (.tuple []) = true := by
    show (decide (((0 : Nat) : Int) ≤ n) && true && true) = true
    rw [decide_eq_true (by omega)]; rfl
  rw [a1, a2, lifeB_ok hx, show numB (.int ho) 0 3 = true from decide_eq_true hh, show numB (.int n) 0 12 = true from decide_eq_true ⟨n0, n1⟩]
  rfl
theorem told_run {r : Ru} (hr : r.Ok) {ho n : Int} {x : Li} (hh : House ho) (hx : x.Ok r) (n0 : 0 ≤ n) (n1 : n ≤ 12) (v : D) (nv : Nar v) {d : D} (hd : Well d) :
    ∃ d', F_l_is_told.run [d, r.d, vwD ho x n, v] = some (.v (.bool true), [d']) ∧ Well d' := by
  obtain ⟨late, d1, e1, l0, l1, w1⟩ := take_well (m := 4) hd (by decide) (by decide)
  have v1 : ixD (vwD ho x n) (.int 1) = some (.v x.d) := rfl
  have v2 : ixD (vwD ho x n) (.int 2) = some (.v (.int n)) := rfl
  have a1 := l_truth_run hr hx v1 v2 v
  have a2 := truth_run hr l0 l1 (vw_ok hh hx n0 n1) v1 v2 n1 v nv
  have a3 := same_bb (truthB r x n v)
  refine ⟨d1, ?_, w1⟩
  rw [u_l_is_told, x_run _ _ _ _ rfl, b_l_is_told]
  (first | (simp (implicitDefEqProofs := false) [a1, e1, a2, a3]; done) | simp [a1, e1, a2, a3])
theorem bends_loop {r : Ru} (hr : r.Ok) {ho n : Int} {x y : Li} (hh : House ho) (hx : x.Ok r) (n0 : 0 ≤ n) (n1 : n ≤ 12) {ts : List D} (ht : TruthOk r x y ts) (h12 : ts.length ≤ 12) (s1 s3 s4 s5 s7 : Option RV) : ∀ (ds : List D) (d : D) (o9 o10 : Option RV), Well d →
    ∃ (d' : D) (t9 : Option RV), forL (gN [0] 9) q_l_right_1 ds [some (.o d), s1, some (.v r.d), s3, s4, s5, some (.v (.tuple ts)), s7, some (.v (vwD ho x n)), o9, o10] = some (.nx, [some (.o d'), s1, some (.v r.d), s3, s4, s5, some (.v (.tuple ts)), s7, some (.v (vwD ho x n)), t9, o10]) ∧ Well d'
  | [], d, o9, o10, hd => ⟨d, o9, rfl, hd⟩
  | e :: ds, d, o9, o10, hd => by
    obtain ⟨rv, d1, e1, w1, n3⟩ := bent_truth ht h12 hd
    obtain ⟨d2, e2, w2'⟩ := told_run hr hh hx n0 n1 rv.d (w2_nar n3) w1
    obtain ⟨v, d3, e3, w3, n4⟩ := swapped_run ht h12 w2'
    obtain ⟨d4, e4, w4⟩ := told_run hr hh hx n0 n1 v (w2_nar n4) w3
    obtain ⟨d', t9, f, w⟩ := bends_loop hr hh hx n0 n1 ht h12 s1 s3 s4 s5 s7 ds d4 (some (.v e)) o10 w4
    refine ⟨d', t9, ?_, w⟩
    unfold forL
    have g : gN [0] 9 e [some (.o d), s1, some (.v r.d), s3, s4, s5, some (.v (.tuple ts)), s7, some (.v (vwD ho x n)), o9, o10] = some [some (.o d), s1, some (.v r.d), s3, s4, s5, some (.v (.tuple ts)), s7, some (.v (vwD ho x n)), some (.v e), o10] := rfl
    have body : q_l_right_1 [some (.o d), s1, some (.v r.d), s3, s4, s5, some (.v (.tuple ts)), s7, some (.v (vwD ho x n)), some (.v e), o10] = some (.nx, [some (.o d4), s1, some (.v r.d), s3, s4, s5, some (.v (.tuple ts)), s7, some (.v (vwD ho x n)), some (.v e), o10]) := by (first | (simp (implicitDefEqProofs := false) [q_l_right_1, e1, e2, e3, e4]; done) | simp [q_l_right_1, e1, e2, e3, e4])
    rw [g, Option.bind_some, body]
    exact f
theorem rep_mem {e : D} {es : List D} : ∀ {k : Nat}, e ∈ (List.replicate k es).flatten → e ∈ es := by
  intro k h
  obtain ⟨l, hl, he⟩ := List.mem_flatten.mp h
  rw [List.eq_of_mem_replicate hl] at he
  exact he
theorem turn_step {r : Ru} (hr : r.Ok) {t : Int} {d : D} (hd : Well d) {d0 : D} (e0 : F_l_rules.run [d0, .int (if t = 0 then 9 else 2)] = some (.v r.d, [d])) (o2 o3 o4 o5 o6 o7 o8 o9 o10 : Option RV) :
    ∃ (d' : D) (u2 u3 u4 u5 u6 u7 u8 u9 u10 : Option RV), q_l_right_2 [some (.o d0), some (.v (.int t)), o2, o3, o4, o5, o6, o7, o8, o9, o10] = some (.nx, [some (.o d'), some (.v (.int t)), u2, u3, u4, u5, u6, u7, u8, u9, u10]) ∧ Well d' := by
  obtain ⟨x, d1, e1, hx, w1⟩ := life_drawn hr hd
  obtain ⟨n, d2, e2, hn, w2'⟩ := of_well (ds := [.int 0, .int 1, .int 2, .int 4, .int 8, .int 12]) w1 (by simp) (by simp)
  have hn : ∃ k : Nat, n = .int (k : Int) ∧ k ≤ 12 := by
    simp only [List.mem_cons, List.not_mem_nil, or_false] at hn
    rcases hn with rfl | rfl | rfl | rfl | rfl | rfl
    · exact ⟨0, rfl, by omega⟩
    · exact ⟨1, rfl, by omega⟩
    · exact ⟨2, rfl, by omega⟩
    · exact ⟨4, rfl, by omega⟩
    · exact ⟨8, rfl, by omega⟩
    · exact ⟨12, rfl, by omega⟩
  obtain ⟨k, rfl, hk⟩ := hn
  obtain ⟨ho, d3, e3, h0, h1, w3⟩ := take_well (m := 4) w2' (by decide) (by decide)
  have hh : House ho := ⟨h0, by omega⟩
  obtain ⟨ts, lv, y, d4, e4, ht, hlen, w4⟩ := lead_run hr hx hk (most := 99) hh w3
  have h12 : ts.length ≤ 12 := by omega
  have k0 : (0 : Int) ≤ (k : Int) := by omega
  have k1 : (k : Int) ≤ 12 := by omega
  have nt : w2 (.tuple ts) = true := w2_of (by omega) fun e he => by have := ht.nar e he; omega
  have v1 : ixD (vwD ho x k) (.int 1) = some (.v x.d) := rfl
  have v2 : ixD (vwD ho x k) (.int 2) = some (.v (.int (k : Int))) := rfl
  have a1 := truth_run hr (late := 0) (by omega) (by omega) (vw_ok hh hx k0 k1) v1 v2 k1 (.tuple ts) (w2_nar nt)
  rw [truth_yes ht (n := (k : Int)) (by omega)] at a1
  obtain ⟨d5, t9, e5, w5⟩ := bends_loop hr hh hx k0 k1 ht h12 (some (.v (.int t))) (some (.v x.d)) (some (.v (.int (k : Int)))) (some (.v (.int ho))) (some (.v (.list lv))) (Z.upTo 0 5) d4 o9 o10 w4
  have vw : (PyData.tuple [.int ho, x.d, .int (k : Int), .tuple [], .tuple []] : D) = vwD ho x k := rfl
  -- the long one
  have lg : ∃ v : D, w2 v = true ∧ ((0 < (k : Int) ∧ ∃ (es : List D) (m : D), ts[ts.length - 1]? = some (.tuple es) ∧ mulD (.tuple es) (.int 9) = some (.v m) ∧ addD (.tuple ts.dropLast) (.tuple [m]) = some (.v v)) ∨ (¬ 0 < (k : Int) ∧ v = .tuple ts)) := by
    by_cases c : 0 < (k : Int)
    · obtain ⟨l, e, hl⟩ : ∃ l, ts[ts.length - 1]? = some l ∧ l ∈ ts := ⟨ts[ts.length - 1]'(by omega), List.getElem?_eq_getElem (by omega), List.getElem_mem _⟩
      have b1 := List.all_eq_true.mp ht.tup l hl
      have b2 := ht.nar l hl
      cases l with
      | tuple es =>
        have b2 : es.length ≤ 3 := b2
        have m1 : mulD (.tuple es) (.int 9) = some (.v (.tuple (List.replicate 9 es).flatten)) := by
          show (if decide ((2 : Int) ≤ 9) && decide ((9 : Int) ≤ 1000) && decide (es.length ≤ 1000) then _ else _) = _
          rw [decide_eq_true (show es.length ≤ 1000 by omega)]; rfl
        refine ⟨.tuple (ts.dropLast ++ [.tuple (List.replicate 9 es).flatten]), w2_of (by rw [List.length_append, List.length_singleton, List.length_dropLast]; omega) fun f hf => ?_, .inl ⟨c, es, _, e, m1, x_addT (by rw [List.length_singleton, List.length_dropLast]; omega)⟩⟩
        rcases List.mem_append.mp hf with hf | hf
        · have := ht.nar f ((List.dropLast_subset ts) hf); omega
        · rw [List.mem_singleton.mp hf]
          show (List.replicate 9 es).flatten.length ≤ 300
          rw [PyProof.Rows.lm_len_rep_flat]; omega
      | _ => cases b1
    · exact ⟨.tuple ts, nt, .inr ⟨c, rfl⟩⟩
  obtain ⟨v, nv, lg⟩ := lg
  obtain ⟨d6, e6, w6⟩ := told_run hr hh hx k0 k1 v (w2_nar nv) w5
  obtain ⟨od, d7, e7, w7, n7⟩ := odd_run w6
  obtain ⟨d8, e8, w8⟩ := told_run hr hh hx k0 k1 od (w2_nar n7) w7
  generalize (k : Int) = kk at *
  refine ⟨d8, some (.v r.d), some (.v x.d), some (.v (.int kk)), some (.v (.int ho)), some (.v (.tuple ts)), some (.v (.list lv)), some (.v (vwD ho x kk)), t9, some (.v v), ?_, w8⟩
  have e0' : (∃ h : t = 0, F_l_rules.run [d0, .int 9] = some (.v r.d, [d])) ∨ (∃ h : ¬ t = 0, F_l_rules.run [d0, .int 2] = some (.v r.d, [d])) := by
    by_cases ct : t = 0
    · rw [if_pos ct] at e0; exact .inl ⟨ct, e0⟩
    · rw [if_neg ct] at e0; exact .inr ⟨ct, e0⟩
  clear e0
  rcases e0' with ⟨ct, f0⟩ | ⟨ct, f0⟩
  · subst ct
    rcases lg with ⟨c, es, m, b1, b2, b3⟩ | ⟨c, rfl⟩
    · (first | (simp (implicitDefEqProofs := false) [-x_addTs, q_l_right_2, f0, e1, e2, e3, e4, vw, a1, e5, c, b1, b2, b3, e6, e7, e8]; done) | simp [-x_addTs, q_l_right_2, f0, e1, e2, e3, e4, vw, a1, e5, c, b1, b2, b3, e6, e7, e8])
    · (first | (simp (implicitDefEqProofs := false) [-x_addTs, q_l_right_2, f0, e1, e2, e3, e4, vw, a1, e5, c, e6, e7, e8]; done) | simp [-x_addTs, q_l_right_2, f0, e1, e2, e3, e4, vw, a1, e5, c, e6, e7, e8])
  · rcases lg with ⟨c, es, m, b1, b2, b3⟩ | ⟨c, rfl⟩
    · (first | (simp (implicitDefEqProofs := false) [-x_addTs, q_l_right_2, ct, f0, e1, e2, e3, e4, vw, a1, e5, c, b1, b2, b3, e6, e7, e8]; done) | simp [-x_addTs, q_l_right_2, ct, f0, e1, e2, e3, e4, vw, a1, e5, c, b1, b2, b3, e6, e7, e8])
    · (first | (simp (implicitDefEqProofs := false) [-x_addTs, q_l_right_2, ct, f0, e1, e2, e3, e4, vw, a1, e5, c, e6, e7, e8]; done) | simp [-x_addTs, q_l_right_2, ct, f0, e1, e2, e3, e4, vw, a1, e5, c, e6, e7, e8])
theorem turns_loop : ∀ (ds : List D) (d : D) (o1 o2 o3 o4 o5 o6 o7 o8 o9 o10 : Option RV), Well d → (∀ e ∈ ds, ∃ i : Int, e = .int i) →
    ∃ (d' : D) (u1 u2 u3 u4 u5 u6 u7 u8 u9 u10 : Option RV), forL (gN [0] 1) q_l_right_2 ds [some (.o d), o1, o2, o3, o4, o5, o6, o7, o8, o9, o10] = some (.nx, [some (.o d'), u1, u2, u3, u4, u5, u6, u7, u8, u9, u10]) ∧ Well d'
  | [], d, o1, o2, o3, o4, o5, o6, o7, o8, o9, o10, hd, _ => ⟨d, o1, o2, o3, o4, o5, o6, o7, o8, o9, o10, rfl, hd⟩
  | e :: ds, d, o1, o2, o3, o4, o5, o6, o7, o8, o9, o10, hd, hi => by
    obtain ⟨t, rfl⟩ := hi e List.mem_cons_self
    obtain ⟨r, d1, e1, hr, w1⟩ := small_run (m := if t = 0 then 9 else 2) (by split <;> omega) (by split <;> omega) hd
    obtain ⟨d2, u2, u3, u4, u5, u6, u7, u8, u9, u10, body, w2'⟩ := turn_step hr w1 e1 o2 o3 o4 o5 o6 o7 o8 o9 o10
    obtain ⟨d', v1, v2, v3, v4, v5, v6, v7, v8, v9, v10, f, w⟩ := turns_loop ds d2 (some (.v (.int t))) u2 u3 u4 u5 u6 u7 u8 u9 u10 w2' fun e he => hi e (List.mem_cons_of_mem _ he)
    refine ⟨d', v1, v2, v3, v4, v5, v6, v7, v8, v9, v10, ?_, w⟩
    have g : gN [0] 1 (.int t) [some (.o d), o1, o2, o3, o4, o5, o6, o7, o8, o9, o10] = some [some (.o d), some (.v (.int t)), o2, o3, o4, o5, o6, o7, o8, o9, o10] := rfl
    unfold forL
    rw [g, Option.bind_some, body]
    exact f
theorem up_get {n : Nat} {d : D} {lo : Int} (h : d ∈ Z.upTo lo n) : ∃ i : Int, d = .int i ∧ lo ≤ i ∧ i < lo + n := by
  unfold Z.upTo at h
  obtain ⟨i, hi, e⟩ := List.mem_map.mp h
  exact ⟨_, e.symm, by omega, by have := List.mem_range.mp hi; omega⟩
theorem right_run {d : D} (hd : Well d) : ∃ d', F_l_right.run [d] = some (.v (.bool true), [d']) := by
  obtain ⟨d', v1, v2, v3, v4, v5, v6, v7, v8, v9, v10, f, w⟩ := turns_loop (Z.upTo 0 4) d none none none none none none none none none none hd fun e he => by
    obtain ⟨i, e, _⟩ := up_get he
    exact ⟨i, e⟩
  refine ⟨d', ?_⟩
  rw [u_l_right, x_run _ _ _ _ rfl, b_l_right]
  (first | (simp (implicitDefEqProofs := false) [f]; done) | simp [f])
end K18
namespace K18
open PySem PySem.Spec L2 Z
open PyProof.Rows hiding St

theorem well_run (ns : List Int) (lap : Int) (hl : ns.length ≤ 63) (l0 : 0 ≤ lap) (l1 : lap < 4) : ∃ d, F_l_well.run [.list (ns.map .int), .int lap] = some (.o d, []) ∧ Well d := by
  have own : ∃ own : Int, (lap < ns.length ∧ atI (ns.map PyData.int) lap = some (.int own)) ∨ (¬ lap < ns.length ∧ own = 0) := by
    by_cases c : lap < ns.length
    · have e : atI (ns.map PyData.int) lap = some (.int ns[lap.toNat]) := by
        have := atI_of (xs := ns.map .int) (j := lap.toNat)
        rw [Int.toNat_of_nonneg l0] at this
        rw [this, List.getElem?_map, List.getElem?_eq_getElem (by omega)]; rfl
      exact ⟨_, .inl ⟨c, e⟩⟩
    · exact ⟨_, .inr ⟨c, rfl⟩⟩
  obtain ⟨own, ho⟩ := own
  have ad : addD (.list ((ns.map PyData.int).take 8)) (.list [.int own]) = some (.o (.list ((ns.map PyData.int).take 8 ++ [.int own]))) := x_addL (by rw [List.length_singleton, List.length_take, List.length_map]; omega)
  have loop : ∀ s : Int, ∃ ρ', forL (gN [] 4) q_l_well_1 ((ns.map PyData.int).take 8 ++ [.int own]) [some (.v (.list (ns.map .int))), some (.v (.int lap)), some (.v (.int own)), some (.v (.int s)), none] = some (.nx, ρ') ∧
      (∀ e ∈ ([] : List D), ∃ i : Int, e = .int i) ∧ ∃ (s : Int) (x : Option RV), ρ' = [some (.v (.list (ns.map .int))), some (.v (.int lap)), some (.v (.int own)), some (.v (.int s)), x] := by
    intro s
    refine forL_st (I := fun ds ρ => (∀ e ∈ ds, ∃ i : Int, e = .int i) ∧ ∃ (s : Int) (x : Option RV), ρ = [some (.v (.list (ns.map .int))), some (.v (.int lap)), some (.v (.int own)), some (.v (.int s)), x]) (fun e ds ρ hI => ?_) _ _ ⟨fun e h => ?_, s, none, rfl⟩
    · obtain ⟨hm, s, x, rfl⟩ := hI
      obtain ⟨i, rfl⟩ := hm e List.mem_cons_self
      exact ⟨_, by simp; rfl, [some (.v (.list (ns.map .int))), some (.v (.int lap)), some (.v (.int own)), some (.v (.int ((s * 44497 + i % 2147483587 + 29) % 2147483563))), some (.v (.int i))], by (first | (simp (implicitDefEqProofs := false) [q_l_well_1]; done) | simp [q_l_well_1]), fun e h => hm e (List.mem_cons_of_mem _ h), _, _, rfl⟩
    · rcases List.mem_append.mp h with h | h
      · obtain ⟨i, _, e⟩ := List.mem_map.mp (List.mem_of_mem_take h)
        exact ⟨i, e.symm⟩
      · exact ⟨own, List.mem_singleton.mp h⟩
  obtain ⟨ρ', h1, _, s, x, rfl⟩ := loop (52027 + 6971 * lap)
  refine ⟨.list [.int (if own < 0 ∨ 1000000000000000000 ≤ own then (if own < 0 then -own else own) else 0), .int s, .int 0], ?_, _, _, _, rfl, by split <;> (try split) <;> omega⟩
  rw [u_l_well, x_run _ _ _ _ rfl, b_l_well]
  rcases ho with ⟨c, e⟩ | ⟨c, rfl⟩
  · by_cases c1 : own < 0
    · (first | (simp (implicitDefEqProofs := false) [-x_addLs, -List.map_take, c, e, ad, h1, c1]; done) | simp [-x_addLs, -List.map_take, c, e, ad, h1, c1])
    · by_cases c2 : 1000000000000000000 ≤ own <;> (first | (simp (implicitDefEqProofs := false) [-x_addLs, c, e, ad, h1, c1, c2]; done) | simp [-x_addLs, c, e, ad, h1, c1, c2])
  · (first | (simp (implicitDefEqProofs := false) [-x_addLs, c, ad, h1]; done) | simp [-x_addLs, c, ad, h1])
theorem lc_run (ns : List Int) (hl : ns.length ≤ 63) (k : Nat) (hk4 : k ≤ 4) : lcL [1] (gN [] 1) bYes q_law_1 (Z.upTo 0 k) [some (.v (.list (ns.map .int))), none] [] = some ((Z.upTo 0 k).map (fun _ => .bool true), [some (.v (.list (ns.map .int))), none]) := by
  have len : (Z.upTo 0 k).length = k := by unfold Z.upTo; rw [List.length_map, List.length_range]
  refine lcL_map (fun _ => .bool true) (by rw [len]; omega) fun d hd => ?_
  obtain ⟨i, rfl, i0, i1⟩ := up_get hd
  obtain ⟨w, h1, hw⟩ := well_run ns i hl i0 (by omega)
  obtain ⟨d', h2⟩ := right_run hw
  exact ⟨[some (.v (.list (ns.map .int))), some (.v (.int i))], _, .v (.bool true), [some (.v (.list (ns.map .int))), some (.v (.int i))], by simp, rfl, by (first | (simp (implicitDefEqProofs := false) [q_law_1, h1, h2]; done) | simp [q_law_1, h1, h2]), rfl, by simp⟩
theorem rng_k (k : Nat) (h : k ≤ 4) : rng1 [.int (k : Int)] = some (Z.upTo 0 k) := x_rng1 (j := (k : Int)) (by omega) (by omega)
theorem all_k (k : Nat) : allD [.list ((Z.upTo 0 k).map fun _ => .bool true)] = some (.v (.bool true)) := by
  have e2 := x_all (boolsOf_mp (fun _ => true) (Z.upTo 0 k))
  have e3 : ((Z.upTo 0 k).map fun _ => true).all id = true := by simp
  rw [e3] at e2
  exact e2
theorem arg_k (ns : List Int) : ∃ k : Nat, k ≤ 4 ∧ eB maxD (osCons (oTv (eC (.int 2))) (osCons (oTv (eB minD (osCons (oTv (eB lenD (osCons (oSl 0) osNil))) (osCons (oTv (eC (.int 4))) osNil)))) osNil)) [some (.v (.list (ns.map .int))), none] = some (.v (.int k), [some (.v (.list (ns.map .int))), none]) := by
  by_cases c : (4 : Int) < (ns.length : Int)
  · exact ⟨4, by omega, by (first | (simp (implicitDefEqProofs := false) [c]; done) | simp [c])⟩
  · by_cases c2 : (2 : Int) < (ns.length : Int)
    · exact ⟨ns.length, by omega, by (first | (simp (implicitDefEqProofs := false) [c, c2]; done) | simp [c, c2])⟩
    · exact ⟨2, by omega, by (first | (simp (implicitDefEqProofs := false) [c, c2]; done) | simp [c, c2])⟩
theorem law_true (ns : List Int) (hl : ns.length ≤ 63) : F_law.run [.list (ns.map .int)] = some (.v (.bool true), []) := by
  obtain ⟨k, hk4, ha⟩ := arg_k ns
  have lc := lc_run ns hl k hk4
  rw [u_law, x_run _ _ _ _ rfl, b_law]
  generalize hq : eB maxD (osCons (oTv (eC (.int 2))) (osCons (oTv (eB minD (osCons (oTv (eB lenD (osCons (oSl 0) osNil))) (osCons (oTv (eC (.int 4))) osNil)))) osNil)) = q at ha
  (first | (simp (implicitDefEqProofs := false) [ha, rng_k k hk4, lc, all_k]; done) | simp [ha, rng_k k hk4, lc, all_k])
end K18
open PySem PySem.W PySem.Calls PyProof.Rows
theorem PySem.Challenge.cw_namelease_k18_whole_rows_of_answered_let_holds : PySem.Challenge.rw_namelease_k18_whole_rows_of_answered_let.Holds := by
  w_on; o_law
  refine HandSHeadRun.head_any (r := K18.row) (q := view K18.row.prog [108])
    (H := K18.hk) (ob := K18.ob) (M := 9000) (loose := K18.ls)
    (d := HandSHeadRun.topDef K18.row.prog 108) (kwd := []) K18.ob_eq
    (by kernel_rfl) (fun s => by kernel_rfl)
    K18.run (by kernel_rfl)
    (by kernel_rfl) (by kernel_rfl) (by rfl)
    (by first | assumption | decide +kernel)
    (by decide +kernel)
    ⟨rfl, rfl, rfl, rfl, rfl, by decide +kernel⟩ ?hw ?hc
  case hw => w_witness2
  case hc =>
    refine L2.walk_ofE (l := PySem.Challenge.rw_namelease_k18_whole_rows_of_answered_let) (n := 63) (k := 79)
      (x := "script") (CX := L2.CX0) rfl (by decide) (by kernel_rfl)
      ⟨rfl, by decide, by decide⟩ ?F (fun _ _ _ _ z => z)
    intro w mg fa h Y G hg0
    obtain ⟨K, KX, c, cc⟩ := Y
    have hg : mg ("law" : PySem.Str) = some (.ref fa) := by
      have e : (HandSHeadRun.topDef K18.row.prog 108).name = ("law" : PySem.Str) := by kernel_rfl
      rw [← e]; exact hg0
    obtain ⟨fd, hb, hF⟩ := K18.facts (P := (PySem.Challenge.rw_namelease_k18_whole_rows_of_answered_let).prog) (w := w) KX G hg c cc
    exact ⟨K, fd, Z.spF K K18.F_law, KX, hb, fun H a ns hl _ hS => Z.sp_script rfl (K18.law_true ns hl) hS fun _ => rfl, hF⟩
