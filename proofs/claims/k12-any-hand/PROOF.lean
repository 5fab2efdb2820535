import PyProof.Rows.All
import Wide.All
import OpenK.AllK
import Wide.FinOn
import KE.KStateDown
import HandS.ForMost
import HandS.ForExc
import HandS.Defaults
import PySem.Challenge.RW_anyworths_k12_whole_any_hand_goes
import KE.KTupSum
import KE.GoesEnum
import KE.GoesMore
import KE.KRevSl
import PyProof.ReprRoads
import HandS.Walk
import HandS.Style
import KE.KExcSuper
import HandS.ExcInit
import HandS.ExcField
import HandS.TryMany
import HandS.IsInst
import HandS.ExcOwn
import HandS.TryOnly
import HandS.Wide
import HandS.TupAny
import HandS.Zip
import HandS.More
import HandS.Codes
import HandS.Lambda
import HandS.Nested
import HandS.Evl
import HandS.HeadHook1
import HandS.CallSlots
import HandS.HeadHook4
import PyProof.Rows.RegFStrParts
import HandS.Head0
import HandS.Head1
import HandS.Head2
import HandS.HeadEnd
import HandS.HeadHook2
import HandS.HeadHook3
import HandS.HeadWalk
set_option Elab.async false
set_option linter.all false
set_option maxRecDepth 100000
/-! The text: each statement of the row's top by its place, the scopes of its defs. -/
namespace K12
open PySem PySem.Spec PyProof.Rows L2
def top (i : Nat) : Stmt := PySem.Challenge.pw_anyworths_k12_whole_any_hand_goes.main.body.getD i (.Pass ⟨0, 0, 0, 0⟩)
abbrev s_is_whole : Stmt := top 12
abbrev N_is_whole : List Str := ["thing", "low", "high"]
abbrev P_is_whole : List Str := ["thing", "low", "high"]
theorem sc_is_whole : FnScope N_is_whole P_is_whole (defScope s_is_whole) := ⟨rfl, rfl, rfl, by decide +kernel, rfl, by decide +kernel, by decide +kernel⟩
abbrev s_is_sequence : Stmt := top 13
abbrev N_is_sequence : List Str := ["thing", "low", "high"]
abbrev P_is_sequence : List Str := ["thing", "low", "high"]
theorem sc_is_sequence : FnScope N_is_sequence P_is_sequence (defScope s_is_sequence) := ⟨rfl, rfl, rfl, by decide +kernel, rfl, by decide +kernel, by decide +kernel⟩
abbrev s_check_pool : Stmt := top 14
abbrev N_check_pool : List Str := ["coins", "at", "coin"]
abbrev P_check_pool : List Str := ["coins"]
theorem sc_check_pool : FnScope N_check_pool P_check_pool (defScope s_check_pool) := ⟨rfl, rfl, rfl, by decide +kernel, rfl, by decide +kernel, by decide +kernel⟩
abbrev s_check_people : Stmt := top 15
abbrev N_check_people : List Str := ["people", "low"]
abbrev P_check_people : List Str := ["people", "low"]
theorem sc_check_people : FnScope N_check_people P_check_people (defScope s_check_people) := ⟨rfl, rfl, rfl, by decide +kernel, rfl, by decide +kernel, by decide +kernel⟩
abbrev s_checked_amounts : Stmt := top 17
abbrev N_checked_amounts : List Str := ["wish", "place", "amount"]
abbrev P_checked_amounts : List Str := ["wish"]
theorem sc_checked_amounts : FnScope N_checked_amounts P_checked_amounts (defScope s_checked_amounts) := ⟨rfl, rfl, rfl, by decide +kernel, rfl, by decide +kernel, by decide +kernel⟩
abbrev s_check_wish : Stmt := top 18
abbrev N_check_wish : List Str := ["wish", "total", "amounts"]
abbrev P_check_wish : List Str := ["wish", "total"]
theorem sc_check_wish : FnScope N_check_wish P_check_wish (defScope s_check_wish) := ⟨rfl, rfl, rfl, by decide +kernel, rfl, by decide +kernel, by decide +kernel⟩
abbrev s_checked_couple : Stmt := top 20
abbrev N_checked_couple : List Str := ["pool", "wish", "coins"]
abbrev P_checked_couple : List Str := ["pool", "wish"]
theorem sc_checked_couple : FnScope N_checked_couple P_checked_couple (defScope s_checked_couple) := ⟨rfl, rfl, rfl, by decide +kernel, rfl, by decide +kernel, by decide +kernel⟩
abbrev s_may_take : Stmt := top 21
abbrev N_may_take : List Str := ["person", "coin", "lacks"]
abbrev P_may_take : List Str := ["person", "coin", "lacks"]
theorem sc_may_take : FnScope N_may_take P_may_take (defScope s_may_take) := ⟨rfl, rfl, rfl, by decide +kernel, rfl, by decide +kernel, by decide +kernel⟩
abbrev s_hand_out : Stmt := top 22
abbrev N_hand_out : List Str := ["pool", "wish", "choose", "coins", "amounts", "lacks", "given", "turn", "coin", "person", "amount", "purse"]
abbrev P_hand_out : List Str := ["pool", "wish", "choose"]
theorem sc_hand_out : FnScope N_hand_out P_hand_out (defScope s_hand_out) := ⟨rfl, rfl, rfl, by decide +kernel, rfl, by decide +kernel, by decide +kernel⟩
abbrev s_lacks_room : Stmt := top 25
abbrev N_lacks_room : List Str := ["coins", "amounts", "place", "holding", "amount"]
abbrev P_lacks_room : List Str := ["coins", "amounts", "place"]
theorem sc_lacks_room : FnScope N_lacks_room P_lacks_room (defScope s_lacks_room) := ⟨rfl, rfl, rfl, by decide +kernel, rfl, by decide +kernel, by decide +kernel⟩
abbrev s_unserved_fault : Stmt := top 26
abbrev N_unserved_fault : List Str := ["pool", "people", "unserved", "coins", "place", "amounts"]
abbrev P_unserved_fault : List Str := ["pool", "people", "unserved"]
theorem sc_unserved_fault : FnScope N_unserved_fault P_unserved_fault (defScope s_unserved_fault) := ⟨rfl, rfl, rfl, by decide +kernel, rfl, by decide +kernel, by decide +kernel⟩
abbrev s_l_hand : Stmt := top 29
abbrev N_l_hand : List Str := ["_law_script", "_law_mixed", "_law_cells", "_law_cell"]
abbrev P_l_hand : List Str := ["_law_script"]
theorem sc_l_hand : FnScope N_l_hand P_l_hand (defScope s_l_hand) := ⟨rfl, rfl, rfl, by decide +kernel, rfl, by decide +kernel, by decide +kernel⟩
abbrev s_l_stirred : Stmt := top 30
abbrev N_l_stirred : List Str := ["_law_number", "_law_turn", "_law_once", "_law_twice"]
abbrev P_l_stirred : List Str := ["_law_number", "_law_turn"]
theorem sc_l_stirred : FnScope N_l_stirred P_l_stirred (defScope s_l_stirred) := ⟨rfl, rfl, rfl, by decide +kernel, rfl, by decide +kernel, by decide +kernel⟩
abbrev s_l_take : Stmt := top 31
abbrev N_l_take : List Str := ["_law_hand_here", "_law_many", "_law_cell", "_law_left"]
abbrev P_l_take : List Str := ["_law_hand_here", "_law_many"]
theorem sc_l_take : FnScope N_l_take P_l_take (defScope s_l_take) := ⟨rfl, rfl, rfl, by decide +kernel, rfl, by decide +kernel, by decide +kernel⟩
abbrev s_l_whole : Stmt := top 32
abbrev N_l_whole : List Str := ["_law_thing"]
abbrev P_l_whole : List Str := ["_law_thing"]
theorem sc_l_whole : FnScope N_l_whole P_l_whole (defScope s_l_whole) := ⟨rfl, rfl, rfl, by decide +kernel, rfl, by decide +kernel, by decide +kernel⟩
abbrev s_l_up : Stmt := top 33
abbrev N_l_up : List Str := ["_law_amount", "_law_people_here"]
abbrev P_l_up : List Str := ["_law_amount", "_law_people_here"]
theorem sc_l_up : FnScope N_l_up P_l_up (defScope s_l_up) := ⟨rfl, rfl, rfl, by decide +kernel, rfl, by decide +kernel, by decide +kernel⟩
abbrev s_l_people : Stmt := top 34
abbrev N_l_people : List Str := ["_law_hand_here"]
abbrev P_l_people : List Str := ["_law_hand_here"]
theorem sc_l_people : FnScope N_l_people P_l_people (defScope s_l_people) := ⟨rfl, rfl, rfl, by decide +kernel, rfl, by decide +kernel, by decide +kernel⟩
abbrev s_l_room : Stmt := top 35
abbrev N_l_room : List Str := ["_law_total", "_law_people_here"]
abbrev P_l_room : List Str := ["_law_total", "_law_people_here"]
theorem sc_l_room : FnScope N_l_room P_l_room (defScope s_l_room) := ⟨rfl, rfl, rfl, by decide +kernel, rfl, by decide +kernel, by decide +kernel⟩
abbrev s_l_rising : Stmt := top 36
abbrev N_l_rising : List Str := ["_law_hand_here", "_law_many", "_law_people_here", "_law_coins", "_law_turn", "_law_room_here"]
abbrev P_l_rising : List Str := ["_law_hand_here", "_law_many", "_law_people_here"]
theorem sc_l_rising : FnScope N_l_rising P_l_rising (defScope s_l_rising) := ⟨rfl, rfl, rfl, by decide +kernel, rfl, by decide +kernel, by decide +kernel⟩
abbrev s_l_spoilt : Stmt := top 37
abbrev N_l_spoilt : List Str := ["_law_hand_here", "_law_coins", "_law_people_here", "_law_rows", "_law_at"]
abbrev P_l_spoilt : List Str := ["_law_hand_here", "_law_coins", "_law_people_here"]
theorem sc_l_spoilt : FnScope N_l_spoilt P_l_spoilt (defScope s_l_spoilt) := ⟨rfl, rfl, rfl, by decide +kernel, rfl, by decide +kernel, by decide +kernel⟩
abbrev s_l_small : Stmt := top 38
abbrev N_l_small : List Str := ["_law_hand_here", "_law_many", "_law_low", "_law_turn"]
abbrev P_l_small : List Str := ["_law_hand_here", "_law_many"]
theorem sc_l_small : FnScope N_l_small P_l_small (defScope s_l_small) := ⟨rfl, rfl, rfl, by decide +kernel, rfl, by decide +kernel, by decide +kernel⟩
abbrev s_l_great : Stmt := top 39
abbrev N_l_great : List Str := ["_law_hand_here", "_law_many", "_law_turn"]
abbrev P_l_great : List Str := ["_law_hand_here", "_law_many"]
theorem sc_l_great : FnScope N_l_great P_l_great (defScope s_l_great) := ⟨rfl, rfl, rfl, by decide +kernel, rfl, by decide +kernel, by decide +kernel⟩
abbrev s_l_pool : Stmt := top 40
abbrev N_l_pool : List Str := ["_law_hand_here", "_law_most", "_law_people_here", "_law_many", "_law_way", "_law_coins", "_law_times", "_law_coin"]
abbrev P_l_pool : List Str := ["_law_hand_here", "_law_most", "_law_people_here"]
theorem sc_l_pool : FnScope N_l_pool P_l_pool (defScope s_l_pool) := ⟨rfl, rfl, rfl, by decide +kernel, rfl, by decide +kernel, by decide +kernel⟩
abbrev s_l_given : Stmt := top 41
abbrev N_l_given : List Str := ["_law_hand_here", "_law_coins", "_law_rows", "_law_coin"]
abbrev P_l_given : List Str := ["_law_hand_here", "_law_coins"]
theorem sc_l_given : FnScope N_l_given P_l_given (defScope s_l_given) := ⟨rfl, rfl, rfl, by decide +kernel, rfl, by decide +kernel, by decide +kernel⟩
abbrev s_l_fails : Stmt := top 42
abbrev N_l_fails : List Str := ["_law_coins", "_law_people_here", "_law_found", "_law_total", "_law_place", "_law_coin"]
abbrev P_l_fails : List Str := ["_law_coins", "_law_people_here"]
theorem sc_l_fails : FnScope N_l_fails P_l_fails (defScope s_l_fails) := ⟨rfl, rfl, rfl, by decide +kernel, rfl, by decide +kernel, by decide +kernel⟩
abbrev s_l_parts : Stmt := top 43
abbrev N_l_parts : List Str := ["_law_total", "_law_people_here", "_law_parts_here", "_law_left", "_law_person", "_law_part"]
abbrev P_l_parts : List Str := ["_law_total", "_law_people_here"]
theorem sc_l_parts : FnScope N_l_parts P_l_parts (defScope s_l_parts) := ⟨rfl, rfl, rfl, by decide +kernel, rfl, by decide +kernel, by decide +kernel⟩
abbrev s_l_hard_wish : Stmt := top 44
abbrev N_l_hard_wish : List Str := ["_law_coins", "_law_people_here", "_law_place", "_law_total", "_law_first"]
abbrev P_l_hard_wish : List Str := ["_law_coins", "_law_people_here", "_law_place"]
theorem sc_l_hard_wish : FnScope N_l_hard_wish P_l_hard_wish (defScope s_l_hard_wish) := ⟨rfl, rfl, rfl, by decide +kernel, rfl, by decide +kernel, by decide +kernel⟩
abbrev s_l_drawn_split : Stmt := top 45
abbrev N_l_drawn_split : List Str := ["_law_hand_here", "_law_coins", "_law_people_here", "_law_purses", "_law_coin", "_law_person", "_law_purse"]
abbrev P_l_drawn_split : List Str := ["_law_hand_here", "_law_coins", "_law_people_here"]
theorem sc_l_drawn_split : FnScope N_l_drawn_split P_l_drawn_split (defScope s_l_drawn_split) := ⟨rfl, rfl, rfl, by decide +kernel, rfl, by decide +kernel, by decide +kernel⟩
abbrev s_l_drawn_wish : Stmt := top 46
abbrev N_l_drawn_wish : List Str := ["_law_hand_here", "_law_total", "_law_people_here", "_law_left", "_law_parts_here", "_law_person", "_law_way", "_law_part"]
abbrev P_l_drawn_wish : List Str := ["_law_hand_here", "_law_total", "_law_people_here"]
theorem sc_l_drawn_wish : FnScope N_l_drawn_wish P_l_drawn_wish (defScope s_l_drawn_wish) := ⟨rfl, rfl, rfl, by decide +kernel, rfl, by decide +kernel, by decide +kernel⟩
abbrev s_l_any_wish : Stmt := top 47
abbrev N_l_any_wish : List Str := ["_law_hand_here", "_law_coins", "_law_people_here", "_law_purse"]
abbrev P_l_any_wish : List Str := ["_law_hand_here", "_law_coins", "_law_people_here"]
theorem sc_l_any_wish : FnScope N_l_any_wish P_l_any_wish (defScope s_l_any_wish) := ⟨rfl, rfl, rfl, by decide +kernel, rfl, by decide +kernel, by decide +kernel⟩
abbrev s_l_listed : Stmt := top 48
abbrev N_l_listed : List Str := ["_law_hand_here", "_law_rows"]
abbrev P_l_listed : List Str := ["_law_hand_here", "_law_rows"]
theorem sc_l_listed : FnScope N_l_listed P_l_listed (defScope s_l_listed) := ⟨rfl, rfl, rfl, by decide +kernel, rfl, by decide +kernel, by decide +kernel⟩
abbrev s_l_numbers : Stmt := top 49
abbrev N_l_numbers : List Str := ["_law_told", "_law_many", "_law_thing"]
abbrev P_l_numbers : List Str := ["_law_told", "_law_many"]
theorem sc_l_numbers : FnScope N_l_numbers P_l_numbers (defScope s_l_numbers) := ⟨rfl, rfl, rfl, by decide +kernel, rfl, by decide +kernel, by decide +kernel⟩
abbrev s_l_is_split : Stmt := top 50
abbrev N_l_is_split : List Str := ["_law_told", "_law_coins", "_law_wish", "_law_together", "_law_purse", "_law_worth"]
abbrev P_l_is_split : List Str := ["_law_told", "_law_coins", "_law_wish"]
theorem sc_l_is_split : FnScope N_l_is_split P_l_is_split (defScope s_l_is_split) := ⟨rfl, rfl, rfl, by decide +kernel, rfl, by decide +kernel, by decide +kernel⟩
abbrev s_l_able : Stmt := top 51
abbrev N_l_able : List Str := ["_law_coin", "_law_lacks", "_law_person"]
abbrev P_l_able : List Str := ["_law_coin", "_law_lacks"]
theorem sc_l_able : FnScope N_l_able P_l_able (defScope s_l_able) := ⟨rfl, rfl, rfl, by decide +kernel, rfl, by decide +kernel, by decide +kernel⟩
abbrev s_l_due : Stmt := top 52
abbrev N_l_due : List Str := ["_law_coins", "_law_wish", "_law_picks", "_law_bad", "_law_lacks", "_law_purses", "_law_calls", "_law_turn", "_law_coin", "_law_able_here", "_law_person", "_law_lack", "_law_purse"]
abbrev P_l_due : List Str := ["_law_coins", "_law_wish", "_law_picks", "_law_bad"]
theorem sc_l_due : FnScope N_l_due P_l_due (defScope s_l_due) := ⟨rfl, rfl, rfl, by decide +kernel, rfl, by decide +kernel, by decide +kernel⟩
abbrev s_l_run : Stmt := top 53
abbrev N_l_run : List Str := ["_law_pool_here", "_law_wish", "_law_picks", "_law_bad", "_law_odd", "_law_chosen", "_law_told", "raised", "_law_calls"]
abbrev P_l_run : List Str := ["_law_pool_here", "_law_wish", "_law_picks", "_law_bad", "_law_odd"]
theorem sc_l_run : FnScope N_l_run P_l_run (defScope s_l_run) := ⟨rfl, rfl, rfl, by decide +kernel, rfl, by decide +kernel, by decide +kernel⟩
abbrev s_l_wrong_choice : Stmt := top 54
abbrev N_l_wrong_choice : List Str := ["_law_hand_here", "_law_coin", "_law_lacks", "_law_unable", "_law_person"]
abbrev P_l_wrong_choice : List Str := ["_law_hand_here", "_law_coin", "_law_lacks"]
theorem sc_l_wrong_choice : FnScope N_l_wrong_choice P_l_wrong_choice (defScope s_l_wrong_choice) := ⟨rfl, rfl, rfl, by decide +kernel, rfl, by decide +kernel, by decide +kernel⟩
abbrev s_l_raised_at : Stmt := top 55
abbrev N_l_raised_at : List Str := ["_law_pool_here", "_law_wish", "_law_picks", "_law_at", "_law_chosen", "_law_calls"]
abbrev P_l_raised_at : List Str := ["_law_pool_here", "_law_wish", "_law_picks", "_law_at"]
theorem sc_l_raised_at : FnScope N_l_raised_at P_l_raised_at (defScope s_l_raised_at) := ⟨rfl, rfl, rfl, by decide +kernel, rfl, by decide +kernel, by decide +kernel⟩
abbrev s_l_wrong_pool : Stmt := top 56
abbrev N_l_wrong_pool : List Str := ["_law_hand_here", "_law_coins", "_law_way", "_law_at", "_law_odd", "_law_rows"]
abbrev P_l_wrong_pool : List Str := ["_law_hand_here", "_law_coins"]
theorem sc_l_wrong_pool : FnScope N_l_wrong_pool P_l_wrong_pool (defScope s_l_wrong_pool) := ⟨rfl, rfl, rfl, by decide +kernel, rfl, by decide +kernel, by decide +kernel⟩
abbrev s_l_wrong_wish : Stmt := top 57
abbrev N_l_wrong_wish : List Str := ["_law_hand_here", "_law_wish", "_law_way", "_law_at", "_law_step", "_law_odd"]
abbrev P_l_wrong_wish : List Str := ["_law_hand_here", "_law_wish"]
theorem sc_l_wrong_wish : FnScope N_l_wrong_wish P_l_wrong_wish (defScope s_l_wrong_wish) := ⟨rfl, rfl, rfl, by decide +kernel, rfl, by decide +kernel, by decide +kernel⟩
abbrev s_l_door : Stmt := top 58
abbrev N_l_door : List Str := ["_law_way", "_law_pool_here", "_law_one_here", "_law_calls", "raised"]
abbrev P_l_door : List Str := ["_law_way", "_law_pool_here", "_law_one_here", "_law_calls"]
theorem sc_l_door : FnScope N_l_door P_l_door (defScope s_l_door) := ⟨rfl, rfl, rfl, by decide +kernel, rfl, by decide +kernel, by decide +kernel⟩
abbrev s_l_doors : Stmt := top 59
abbrev N_l_doors : List Str := ["_law_hand_here", "_law_handed", "_law_coins", "_law_wish", "_law_wrong", "_law_place", "_law_what", "_law_odd", "_law_at", "_law_why", "_law_many", "_law_calls"]
abbrev P_l_doors : List Str := ["_law_hand_here", "_law_handed", "_law_coins", "_law_wish"]
theorem sc_l_doors : FnScope N_l_doors P_l_doors (defScope s_l_doors) := ⟨rfl, rfl, rfl, by decide +kernel, rfl, by decide +kernel, by decide +kernel⟩
abbrev s_l_same : Stmt := top 60
abbrev N_l_same : List Str := ["_law_told", "_law_due_here", "_law_coins", "_law_wish"]
abbrev P_l_same : List Str := ["_law_told", "_law_due_here", "_law_coins", "_law_wish"]
theorem sc_l_same : FnScope N_l_same P_l_same (defScope s_l_same) := ⟨rfl, rfl, rfl, by decide +kernel, rfl, by decide +kernel, by decide +kernel⟩
abbrev s_l_played : Stmt := top 61
abbrev N_l_played : List Str := ["_law_hand_here", "_law_handed", "_law_coins", "_law_wish", "_law_ends", "_law_turn", "_law_picks", "_law_due_here", "_law_bad", "_law_odd", "_law_coin"]
abbrev P_l_played : List Str := ["_law_hand_here", "_law_handed", "_law_coins", "_law_wish", "_law_ends"]
theorem sc_l_played : FnScope N_l_played P_l_played (defScope s_l_played) := ⟨rfl, rfl, rfl, by decide +kernel, rfl, by decide +kernel, by decide +kernel⟩
abbrev s_l_all_picks : Stmt := top 62
abbrev N_l_all_picks : List Str := ["_law_people_here", "_law_many", "_law_rows", "_law_turn"]
abbrev P_l_all_picks : List Str := ["_law_people_here", "_law_many"]
theorem sc_l_all_picks : FnScope N_l_all_picks P_l_all_picks (defScope s_l_all_picks) := ⟨rfl, rfl, rfl, by decide +kernel, rfl, by decide +kernel, by decide +kernel⟩
abbrev s_l_longer : Stmt := top 63
abbrev N_l_longer : List Str := ["_law_rows", "_law_people_here", "_law_longer_here", "_law_row", "_law_person"]
abbrev P_l_longer : List Str := ["_law_rows", "_law_people_here"]
theorem sc_l_longer : FnScope N_l_longer P_l_longer (defScope s_l_longer) := ⟨rfl, rfl, rfl, by decide +kernel, rfl, by decide +kernel, by decide +kernel⟩
abbrev s_l_one : Stmt := top 64
abbrev N_l_one : List Str := ["_law_hand_here", "_law_people_here", "_law_coins", "_law_handed", "_law_kept", "_law_fails_here", "_law_wish", "_law_ends", "_law_picks", "_law_due_here"]
abbrev P_l_one : List Str := ["_law_hand_here"]
theorem sc_l_one : FnScope N_l_one P_l_one (defScope s_l_one) := ⟨rfl, rfl, rfl, by decide +kernel, rfl, by decide +kernel, by decide +kernel⟩
abbrev s_lawd : Stmt := top 65
abbrev N_lawd : List Str := ["_law_script", "_law_hand_here", "_law_turn"]
abbrev P_lawd : List Str := ["_law_script"]
theorem sc_lawd : FnScope N_lawd P_lawd (defScope s_lawd) := ⟨rfl, rfl, rfl, by decide +kernel, rfl, by decide +kernel, by decide +kernel⟩
end K12

set_option Elab.async false
set_option linter.all false
set_option maxRecDepth 100000
set_option maxHeartbeats 2000000
/-! Further rules: tuples in enumerate, sum, sorted, reversed slices; xs[i] op= e. -/
namespace K12L
open PySem PySem.Spec PyProof.Rows L2
/-! ### sum of a tuple -/
def rSumT (K : PySem.W.Frag) : List V → Hp → VK → Prop := fun vs H Q => ∃ (a : Addr) (ns : List Int), vs = [V.ref a] ∧ SqT K H a (ns.map V.int) ∧ Q (.int ns.sum) H
section
variable {X : Cx}
theorem cr_sumT (hc : X.calm = true) : CallR X (.builtin "sum") (rSumT X.K) := by
  intro pins s σ H vs us Q I r h
  obtain ⟨a, ns, rfl, hx, q⟩ := h
  obtain ⟨its, rv, ht, _⟩ := I.tuple hx
  obtain ⟨u, rfl, ru⟩ := vals1 r
  cases ru
  have hi := intsAre_of rv
  obtain ⟨ps, e⟩ := hi.allInts.items
  have en : numsOf (intItems ps).toList = ns := by
    rw [← e]
    exact hi.numsOf
  rw [nums_intItems] at en
  have ht' : s.heap.IsTuple a (intItems ps) := by
    rw [← e]
    exact ht
  refine PySem.W.ktm_sumG (I.ok.hd hc) ht' fun h' tk t' hk => ⟨.int ns.sum, H, I.kept hk, ⟨t', ?_⟩, q⟩
  rw [preSum_eq, List.take_of_length_le (by simp), en]
/-! ### sorted of a tuple -/
theorem gather_tuple {prog : Program} {w : World} {A : Around} {E : Value → Shared → Prop} {s : Shared} {t : Addr} {vs : List Value} {Q : List Value → Shared → Prop} (ht : IsTup s.heap t vs.toArray) (hz : vs.length ≤ sizeLine)
    (h : Q vs { s with heap := (s.heap.push (seqObj "list" #[] 0)).update s.heap.objs.size (Obj.mapSeq (· ++ vs.toArray)) }) : wpAny (model prog w) A (collect (.ref t)) Q E s := by
  obtain ⟨ob, eo, ec, nn, ed⟩ := ht
  unfold collect
  refine wpAny_bind (wpAny_runValue (codeAny_builtin entry_proto_collect' ?_))
  show wpAny _ _ (newList [] >>= fun l => again (.builtin "list.__iadd__" ⟨[l, .ref t], []⟩)) _ _ s
  refine wpAny_bind (wpAny_newList (wpAny_pure ⟨Code.quiet_builtin _ (by decide +kernel), codeAny_builtin entry_list_iadd' ?_⟩))
  show wpAny _ _ (Builtin.List.listExtendWith (.ref s.heap.objs.size) (.ref t) (.ref s.heap.objs.size)) _ _ { s with heap := s.heap.push (seqObj "list" #[] 0) }
  have eo2 : (s.heap.push (seqObj "list" #[] 0)).get? t = some ob := Heap.get?_push_of_some _ eo
  have enew : (s.heap.push (seqObj "list" #[] 0)).get? s.heap.objs.size = some (seqObj "list" #[] 0) := Heap.get?_push_size _ rfl
  unfold Builtin.List.listExtendWith
  refine wpAny_bind (wpAny_typeOf (T := "tuple") ⟨ob, eo2, ec⟩ ?_)
  rw [if_pos (by simp)]
  refine wpAny_bind (listItems_at eo2 ed (wpAny_bind (listItems_at (xs := #[]) (n := 0) enew rfl ?_)))
  rw [if_neg (by simp)]
  refine wpAny_bind (listUpdate_at (xs := #[]) (n := 0) enew rfl (wpAny_pure ?_) (Nat.zero_le _) ?_)
  · show wpAny (model prog w) A (load s.heap.objs.size >>= fun o => match o.data with
      | .seq xs _ => pure xs.toList
      | _ => unsupported "internal:collect") Q E { s with heap := (s.heap.push (seqObj "list" #[] 0)).update s.heap.objs.size (Obj.mapSeq (· ++ vs.toArray)) }
    refine wpAny_bind (wpAny_load (get?_update_seq enew _) ?_)
    show wpAny _ _ (pure ((#[] : Array Value) ++ vs.toArray).toList) Q E _
    have e2 : ((#[] : Array Value) ++ vs.toArray).toList = vs := by simp
    rw [e2]
    exact wpAny_pure h
  · show (#[] ++ vs.toArray).size ≤ sizeLine + 1
    simp only [Array.size_append, List.size_toArray, List.length_nil]
    omega
theorem sorted_tuple_ints {prog : Program} {w : World} {A : Around} {E : Value → Shared → Prop} {s : Shared} {t : Addr} {vs : List Value} {ns : List Int} {Q : Value → Shared → Prop} (ht : IsTup s.heap t vs.toArray) (hI : IntsAre vs ns) (h64 : vs.length < 64)
    (h : ∀ (out : Array Value) (ms : List Int), IntsAre out.toList ms → ms.Perm ns → ms.Pairwise (· ≤ ·) → Q (.ref (s.heap.objs.size + 1)) { s with heap := sortedAll s.heap vs out }) :
    wpAny (model prog w) A (call (.builtin "sorted") [.ref t]) Q E s := by
  have hz : vs.length ≤ sizeLine := by
    rw [sizeLine_eq]
    omega
  refine Calls.call_function_entry kind_sorted plain_sorted entry_sorted (args_sorted1 _) ?_
  unfold Builtin.«sorted»
  refine wpAny_bind (m := checkCount "sorted" 1 1 _) (wpAny_pure (wpAny_bind (gather_tuple ht hz (wpAny_bind (wpAny_newList ?_ hz)))))
  have sz : ((s.heap.push (seqObj "list" #[] 0)).update s.heap.objs.size (Obj.mapSeq (· ++ vs.toArray))).objs.size = s.heap.objs.size + 1 := by
    rw [Heap.size_update]
    exact size_push' _ _
  have here : (((s.heap.push (seqObj "list" #[] 0)).update s.heap.objs.size (Obj.mapSeq (· ++ vs.toArray))).push (seqObj "list" vs.toArray 0)).get? (s.heap.objs.size + 1) = some (seqObj "list" vs.toArray 0) := by
    rw [← sz]
    exact Heap.get?_push_size _ rfl
  show wpAny _ _ _ _ _ { s with heap := ((s.heap.push (seqObj "list" #[] 0)).update s.heap.objs.size (Obj.mapSeq (· ++ vs.toArray))).push (seqObj "list" vs.toArray 0) }
  rw [sz]
  exact wpAny_bind (wpAny_holding (wpAny_call_entry slot_list_sort ⟨_, here, rfl⟩ entry_list_sort (list_sort_tree here hI h64 fun out ms a b c => ⟨_, rfl, wpAny_pure ⟨_, rfl, h out ms a b c⟩⟩) (args_list_sort _)))
def rSortedTu (K : PySem.W.Frag) : List V → Hp → VK → Prop := fun vs H Q => ∃ (a : Addr) (ns : List Int), vs = [V.ref a] ∧ SqT K H a (ns.map V.int) ∧ ns.length < 64 ∧
  ∀ (ms : List Int) (p : Addr), ms.Perm ns → ms.Pairwise (· ≤ ·) → H p = none → Q (.ref p) (upd H p (.lst (ms.map V.int)))
theorem cr_sortedTu : CallR X (.builtin "sorted") (rSortedTu X.K) := by
  intro pins s σ H vs us Q I r h
  obtain ⟨a, ns, rfl, hx, h64, q⟩ := h
  obtain ⟨its, rv, ht, _⟩ := I.tuple hx
  obtain ⟨u, rfl, ru⟩ := vals1 r
  cases ru
  have hi := intsAre_of rv
  refine sorted_tuple_ints ht hi (by rw [hi.length]; exact h64) fun out ms h1 h2 h3 => ?_
  obtain ⟨ep, he'⟩ := sortedAll_at s.heap its out
  have hlen : (ms.map V.int).length ≤ sizeLine := by
    rw [List.length_map, h2.length_eq, sizeLine_eq]
    omega
  refine ⟨.ref (s.heap.objs.size + 1), upd H (s.heap.objs.size + 1) (.lst (ms.map V.int)), ?_, rfl, q ms _ h2 h3 (I.hok.fresh (Nat.le_succ _))⟩
  exact I.laid (t' := s.toks) (fun b o e => sortedAll_old e) (Nat.le_succ _) ⟨hlen, out.toList, ep, vals_of_ints h1, he'⟩
end
/-! ### list or tuple -/
/-- a list (false) or a tuple (true) -/
def Sq (K : PySem.W.Frag) (b : Bool) (H : Hp) (a : Addr) (xs : List V) : Prop := match b with
  | false => SqL K H a xs
  | true => SqT K H a xs
section
variable {X : Cx}
theorem cr_sumQ (hc : X.calm = true) : CallR X (.builtin "sum") (fun vs H Q => ∃ (a : Addr) (b : Bool) (ns : List Int), vs = [V.ref a] ∧ Sq X.K b H a (ns.map V.int) ∧ Q (.int ns.sum) H) := by
  intro pins s σ H vs us Q I r h
  obtain ⟨a, b, ns, e, hx, q⟩ := h
  cases b with
  | false => exact cr_sum hc pins s σ H vs us Q I r ⟨a, ns, e, hx, q⟩
  | true => exact cr_sumT hc pins s σ H vs us Q I r ⟨a, ns, e, hx, q⟩
theorem cr_sortedQ : CallR X (.builtin "sorted") (fun vs H Q => ∃ (a : Addr) (b : Bool) (ns : List Int), vs = [V.ref a] ∧ Sq X.K b H a (ns.map V.int) ∧ ns.length < 64 ∧
    ∀ (ms : List Int) (p : Addr), ms.Perm ns → ms.Pairwise (· ≤ ·) → H p = none → Q (.ref p) (upd H p (.lst (ms.map V.int)))) := by
  intro pins s σ H vs us Q I r h
  obtain ⟨a, b, ns, e, hx, h64, q⟩ := h
  cases b with
  | false => exact cr_sorted pins s σ H vs us Q I r ⟨a, ns, e, hx, h64, q⟩
  | true => exact cr_sortedTu pins s σ H vs us Q I r ⟨a, ns, e, hx, h64, q⟩
/-! ### o[i] read, of a list; xs[i] op= e -/
def gtL (K : PySem.W.Frag) : V → V → Hp → VK → Prop := fun x y H Q => ∃ (p : Addr) (xs : List V) (j : Nat) (v : V), x = .ref p ∧ y = .int (j : Int) ∧ SqL K H p xs ∧ xs[j]? = some v ∧ Q v H
theorem pget_list : PGet X (gtL X.K) := by
  intro pins s σ H o i ov iv Q I ro ri h
  obtain ⟨p, xs, j, v, rfl, rfl, hx, hj, q⟩ := h
  cases ro
  obtain ⟨t, rfl⟩ := ri
  obtain ⟨its, rv, pl, hz⟩ := I.list hx
  obtain ⟨u, hu, ru⟩ := rv.get hj
  have hlt : j < its.length := (List.getElem?_eq_some_iff.mp hu).1
  have hl := rv.length
  have hs : sizeLine = 16777216 := sizeLine_eq
  refine getItem_listL pl.isList (by omega) (by omega) ?_ ⟨v, H, I, ru, q⟩
  rw [Int.toNat_natCast]
  exact hu
/-! ### t[::-1] of a tuple -/
def tRevT (K : PySem.W.Frag) (te : TE) : TE := fun σ H Q => te σ H fun x H1 => ∃ a xs, x = .ref a ∧ SqT K H1 a xs ∧ ∀ p, H1 p = none → Q (.ref p) (upd H1 p (.tup xs.reverse))
end
section
variable {prog : Program} {w : World} {A : Around} {E : Value → Shared → Prop} {s : Shared}
theorem adjust_back (n : Nat) : Builtin.Slice.sliceAdjust none none (-1) (n : Int) = ((n : Int) - 1, -1) := by
  unfold Builtin.Slice.sliceAdjust
  simp
theorem places_back (n : Nat) : Builtin.Slice.slicePlaces ((n : Int) - 1) (-1) (-1) = n := by
  unfold Builtin.Slice.slicePlaces
  simp
  try split
  all_goals omega
theorem fm_map {α β : Type} (f : α → Option β) (g : α → β) : ∀ l : List α, (∀ a ∈ l, f a = some (g a)) → l.filterMap f = l.map g
  | [], _ => rfl
  | a :: l, h => by
    rw [List.filterMap_cons, h a List.mem_cons_self, List.map_cons]
    show g a :: l.filterMap f = g a :: l.map g
    rw [fm_map f g l fun b hb => h b (List.mem_cons_of_mem _ hb)]
theorem pick_back (xs : Array Value) : ((List.range xs.size).filterMap fun (k : Nat) => xs[(((xs.size : Int) - 1) + (k : Int) * -1).toNat]?) = xs.toList.reverse := by
  apply List.ext_getElem?
  intro i
  have e1 : ((List.range xs.size).filterMap fun (k : Nat) => xs[(((xs.size : Int) - 1) + (k : Int) * -1).toNat]?) = (List.range xs.size).map fun k => xs.getD (xs.size - 1 - k) .none := by
    refine fm_map _ _ _ fun k hk => ?_
    have hk2 : k < xs.size := List.mem_range.mp hk
    have e : (((xs.size : Int) - 1) + (k : Int) * -1).toNat = xs.size - 1 - k := by omega
    rw [e]
    have hlt : xs.size - 1 - k < xs.size := by omega
    simp [Array.getD, hlt]
  rw [e1, List.getElem?_map]
  by_cases hi : i < xs.size
  · have hlt : xs.size - 1 - i < xs.size := by omega
    rw [List.getElem?_range hi, List.getElem?_reverse (by simpa using hi)]
    simp [Array.getD, hlt]
  · rw [List.getElem?_eq_none (by simpa using hi), List.getElem?_eq_none (by simpa using hi)]
    rfl
theorem applied_back {sl : Addr} {vl vu vs : Value} {n : Nat} {Q : Int × Int × Nat → Shared → Prop} (hs : s.heap.IsSliceOf sl vl vu vs) (pl : IsPart vl none) (pu : IsPart vu none) (ps : IsPart vs (some (-1)))
    (h : Q ((n : Int) - 1, -1, n) s) : wpAny (model prog w) A (Builtin.Slice.sliceApplied (.ref sl) (pure (n : Int))) Q E s := by
  obtain ⟨ob, e1, e2, e3⟩ := id hs
  unfold Builtin.Slice.sliceApplied Builtin.Slice.sliceFields
  refine wpAny_bind (wpAny_bind (wpAny_field e1 e3 (x := vl) rfl (wpAny_bind (wpAny_field e1 e3 (x := vu) rfl (wpAny_bind (wpAny_field e1 e3 (x := vs) rfl (wpAny_pure ?_)))))))
  refine wpAny_bind (HT.slicePart_ ps ?_)
  show wpAny _ _ (if ((-1 : Int) == 0) = true then _ else _) _ _ s
  rw [if_neg (by decide)]
  refine wpAny_bind (HT.slicePart_ pl (wpAny_bind (HT.slicePart_ pu (wpAny_bind (wpAny_pure ?_)))))
  show wpAny _ _ (match Builtin.Slice.sliceAdjust none none (-1) (n : Int) with | (lo, hi) => pure (lo, (-1 : Int), Builtin.Slice.slicePlaces lo hi (-1))) _ _ s
  rw [adjust_back n]
  show wpAny _ _ (pure ((n : Int) - 1, (-1 : Int), Builtin.Slice.slicePlaces ((n : Int) - 1) (-1) (-1))) _ _ s
  rw [places_back]
  exact wpAny_pure h
theorem getItem_tuple_back {t sl : Addr} {items : Array Value} {vl vu vs : Value} {Q : Value → Shared → Prop} (ht : IsTup s.heap t items) (hs : s.heap.IsSliceOf sl vl vu vs) (pl : IsPart vl none) (pu : IsPart vu none) (ps : IsPart vs (some (-1)))
    (h : Q (.ref s.heap.objs.size) { s with heap := s.heap.push { cls := .type "tuple", data := .seq items.toList.reverse.toArray } }) (hz : items.size ≤ sizeLine) : wpAny (model prog w) A (getItem (.ref t) (.ref sl)) Q E s := by
  obtain ⟨ob, e1, e2, _⟩ := id hs
  have hT : s.TypeIs (.ref sl) "slice" := ⟨ob, e1, e2⟩
  unfold getItem
  try with_reducible refine wpAny_holding ?_
  first | refine wpAny_bind (wpAny_pure ?_) | skip
  refine wpAny_bind (wpAny_sequenceKey ht.typeIs (by decide) ?_)
  refine wpAny_bind (wpAny_callSpecial?_slot (name := Str.ofString "__getitem__") ht.typeIs PyProof.Rows.slot_tuple_getitem
    (wpAny_call_entry PyProof.Rows.slot_tuple_getitem ht.typeIs entry_tuple_getitem ?_ (args_tuple_getitem _ _)))
  show wpAny _ _ (Builtin.Tuple.tupleItemsOf (.ref t) >>= _) _ _ s
  refine wpAny_bind (tupleItemsOf_ ht (wpAny_bind (wpAny_typeOf hT ?_)))
  rw [if_pos (by decide)]
  refine wpAny_bind (applied_back hs pl pu ps ?_)
  have hno : ¬ ((((items.size : Int) - 1) == 0 && (-1 : Int) == 1 && items.size == items.size) = true) := by
    intro q
    rw [Bool.and_eq_true, Bool.and_eq_true] at q
    exact absurd (eq_of_beq q.1.2) (by decide)
  show wpAny _ _ (if (((items.size : Int) - 1) == 0 && (-1 : Int) == 1 && items.size == items.size) = true then _ else _) _ _ s
  rw [if_neg hno, pick_back]
  have hz2 : sizeOk (.seq items.toList.reverse.toArray) := by
    show items.toList.reverse.toArray.size ≤ sizeLine
    rw [List.size_toArray, List.length_reverse, Array.length_toList]
    exact hz
  first
    | exact wpAny_bind (m := Builtin.Tuple.tupleExact _) (wpAny_newObj_type (wpAny_pure ⟨_, rfl, wpAny_pure h⟩) hz2)
    | exact wpAny_bind (wpAny_bind (m := Builtin.Tuple.tupleExact _) (wpAny_newObj_type (wpAny_pure ⟨_, rfl, wpAny_pure h⟩) hz2))
    | exact wpAny_bind (m := Builtin.Tuple.tupleExact _) (wpAny_newObj_type (wpAny_bind (wpAny_pure (wpAny_pure ⟨_, rfl, wpAny_pure h⟩))) hz2)
end
section
variable {X : Cx}
theorem pe_revT {e : Expr} {te : TE} {k : Nat} {p1 p2 p3 pos : Pos} (he : PE X e te) : PE X (.Subscript e (.Slice none none (some (.UnaryOp .USub (.Constant (.int 1) k p1) p2)) p3) pos) (tRevT X.K te) := by
  refine ⟨fun pins s σ H Q I h => Subscript_ (thn (he.run pins s σ H _ I h) fun v s1 ⟨x, H1, I1, r1, a, xs, ex, hx, q⟩ => ?_)⟩
  subst ex
  cases r1
  have hst : PO X (some (.UnaryOp .USub (.Constant (.int 1) k p1) p2)) (tPart (tUn (rU fun i => .int (-i)) (tC (.int 1)))) := po_some (pe_un un_neg pe_int)
  refine wpAny_Slice (thn (po_none.run pins s1 σ H1 (fun o G => o = none ∧ G = H1) I1 ⟨rfl, rfl⟩) fun vl s2 ⟨l, H2, I2, pl, el, e2⟩ => ?_)
  subst el e2
  refine thn (po_none.run pins s2 σ H2 (fun o G => o = none ∧ G = H2) I2 ⟨rfl, rfl⟩) fun vu s3 ⟨u, H3, I3, pu, eu, e3⟩ => ?_
  subst eu e3
  refine thn (hst.run pins s3 σ H3 (fun o G => o = some (-1) ∧ G = H3) I3 ⟨1, rfl, -1, rfl, rfl, rfl⟩) fun vs s4 ⟨o, H4, I4, ps, eo, e4⟩ => ?_
  subst eo e4
  have I5 : Inv X pins σ H4 { s4 with heap := s4.heap.push { cls := .type "slice", data := .fields #[vl, vu, vs] } } := I4.kept (t' := s4.toks) fun b ob z => Heap.get?_push_of_some _ z
  obtain ⟨its, r, ht, hz⟩ := I5.tuple hx
  have hlen := r.length
  show wpAny (model X.prog X.w) X.A (subscriptTail e (.Slice none none (some (.UnaryOp .USub (.Constant (.int 1) k p1) p2)) p3) (.ref a) (.ref s4.heap.objs.size)) (EP X pins σ Q) X.xe { s4 with heap := s4.heap.push { cls := .type "slice", data := .fields #[vl, vu, vs] } }
  refine tail_any (ops := [.ref a, .ref s4.heap.objs.size]) ht.typeIs PyProof.Rows.slot_tuple_getitem.lookup ?_ (by with_unfolding_all rfl)
  refine getItem_tuple_back ht (Heap.IsSliceOf.new _ vl vu vs) pl pu ps ?_ (by rw [List.size_toArray]; omega)
  refine ⟨.ref _, _, I5.laid (t' := s4.toks) (o := .tup xs.reverse) (fun b ob z => Heap.get?_push_of_some _ z) (Nat.le_refl _) ?_, rfl, q _ (I5.hok.fresh (Nat.le_refl _))⟩
  exact ⟨by rw [List.length_reverse]; exact hz, its.reverse, r.reverse, IsTup.new _ _⟩
end
end K12L

set_option Elab.async false
set_option linter.all false
set_option maxRecDepth 100000
set_option maxHeartbeats 2000000
/-! enumerate of a tuple (a list); repr of data. -/
namespace K12L
open PySem PySem.Spec PyProof.Rows L2
/-! ### enumerate(tuple) begins -/
set_option maxHeartbeats 4000000 in
theorem meets_enum1 {v : Value} {o : Obj} {G : Heap → Prop} (B : Begins v o G) :
    Meets (Builtin.«enumerate.__new__» ⟨[.type "enumerate", v], []⟩) (fun _ R s => G s.heap ∧
      R (.ok (.ret (.ref (s.heap.push o).objs.size))) { s with heap := (s.heap.push o).push { cls := .type "enumerate", data := .fields #[.none, .bool false, .ref s.heap.objs.size, rawInt 0, .none, .none] } }) :=
  .of_wp fun prog w A R s hh => by
    obtain ⟨hp, g, d, tk, os⟩ := s
    obtain ⟨hG, hR⟩ := hh
    have sub := sub_enumerate
    have it : ∀ {A' : Around} {E : Value → Shared → Prop} {Q : Value → Shared → Prop}, Q (.ref hp.objs.size) ⟨hp.push o, g, d, tk, os⟩ → wpAny (model prog w) A' (pyIter v) Q E ⟨hp, g, d, tk, os⟩ :=
      fun q => B.iter prog w _ _ ⟨hp, g, d, tk, os⟩ _ hG q
    wp_walk using it
    refine wpAny_stack_any fun st => wpAny_pure ?_
    split
    · rename_i c _ _ _ _ _
      cases hc : (c == Value.type "enumerate")
      all_goals
        first
          | (wp_walk using it; exact ⟨_, rfl, hR⟩)
          | (simp only [hc]; wp_walk using it; exact ⟨_, rfl, hR⟩)
    · wp_walk using it
      exact ⟨_, rfl, hR⟩
theorem call_enum1 {prog : Program} {w : World} {A : Around} {E : Value → Shared → Prop} {s : Shared} {v : Value} {o : Obj} {G : Heap → Prop} {Q : Value → Shared → Prop} (B : Begins v o G) (hG : G s.heap)
    (h : ∀ h', IsEnum h' (s.heap.objs.size + 1) s.heap.objs.size 0 .none → h'.get? s.heap.objs.size = some o → (∀ b u, s.heap.get? b = some u → h'.get? b = some u) → Q (.ref (s.heap.objs.size + 1)) { s with heap := h' }) :
    wpAny (model prog w) A (call (.type "enumerate") [v]) Q E s := by
  refine callType_new F.called_enumerate (by decide) (F.typeCall_enumerate_1 _) (F.newCall_enumerate_1 _) (fun obj => F.args_object_init_2 obj _) F.entry_enumerate_new (meets_enum1 B) ⟨hG, ?_⟩
  have sz : (s.heap.push o).objs.size = s.heap.objs.size + 1 := Heap.size_push ..
  have he : IsEnum ((s.heap.push o).push { cls := .type "enumerate", data := .fields #[.none, .bool false, .ref s.heap.objs.size, rawInt 0, .none, .none] }) (s.heap.objs.size + 1) s.heap.objs.size 0 .none := by
    have z := Heap.get?_push_size (s.heap.push o) (o := { cls := .type "enumerate", data := .fields #[.none, .bool false, .ref s.heap.objs.size, rawInt 0, .none, .none] }) rfl
    rw [sz] at z
    exact z
  show _ ∧ _
  rw [sz]
  exact ⟨⟨_, he, rfl⟩, h _ he (Heap.get?_push_of_some _ (Heap.get?_push_size _ B.free)) fun b u x => Heap.get?_push_of_some _ (Heap.get?_push_of_some _ x)⟩
/-! ### its turns -/
def IteT (K : PySem.W.Frag) (a : Addr) : It :=
  ⟨fun i H => ∃ (xs : List V) (x : V), SqT K H a xs ∧ xs[i]? = some x, fun i H v H' => ∃ T x, v = .ref T ∧ H T = none ∧ H' = upd H T (.tup [.int (i : Nat), x]) ∧ ∀ xs, SqT K H a xs → xs[i]? = some x,
    fun i H => ∃ xs : List V, SqT K H a xs ∧ xs.length = i⟩
theorem turn_enumT {P : Program} {w : World} {K : PySem.W.Frag} {elts : List Expr} {kk : Nat} {tpos : Pos} (a e it : Addr) (hai : a ≠ it) (hae : a ≠ e) :
    Turn P w K (.Tuple elts kk tpos) (IteT K a) [e, it] e (fun i h => (∃ old, IsEnum h e it ((i : Nat) : Int) old) ∧ h.IsTupleIter it a i ∧ e ≠ it) where
  mem := List.mem_cons_self
  obj := fun i h st b hb => by
    obtain ⟨⟨old, he⟩, ⟨o, ho, _, hd⟩, _⟩ := st
    rcases List.mem_cons.mp hb with z | z
    · subst z
      exact ⟨_, he, fun v q => nomatch q⟩
    · rw [List.mem_singleton.mp z]
      refine ⟨o, ho, fun v q => ?_⟩
      rw [hd] at q
      cases q
  keep := fun i h h' st k => by
    obtain ⟨⟨old, he⟩, hi, hne⟩ := st
    exact ⟨⟨old, k e List.mem_cons_self _ he⟩, hi.at fun o q => k it (List.mem_cons_of_mem _ List.mem_cons_self) o q, hne⟩
  item := by
    intro X hP hw hK hc i pins s σ H E I hf st hg
    subst hP hw hK
    obtain ⟨⟨old, he⟩, hit, hne⟩ := st
    obtain ⟨xs, x, hq, hx⟩ := hg
    obtain ⟨its, rv, p, hz⟩ := I.tuple hq
    have hlt : i < its.toArray.size := by
      have l1 := rv.length
      have l2 := (List.getElem?_eq_some_iff.mp hx).1
      rw [List.size_toArray]
      omega
    have hel : e < s.heap.objs.size := Heap.lt_size he
    have hil : it < s.heap.objs.size := by
      obtain ⟨_, q, _⟩ := hit
      exact Heap.lt_size q
    have nef : e ∉ [it, a] := fun z => by
      rcases List.mem_cons.mp z with q | q
      · exact hne q
      · exact hae (List.mem_singleton.mp q).symm
    refine wpAny_pyNext_enum_itemD (Draws.tuple (prog := X.prog) (w := X.w) (A := X.A.in1) (I.ok.hd hc) it a hai its.toArray) he ⟨hit, p⟩ hlt hne nef fun u h' tk hu ho st' hT hsz hk => ?_
    have hu' : its[i]? = some u := by simpa using hu
    obtain ⟨u2, hu2, ru⟩ := rv.get hx
    have eu : u2 = u := Option.some.inj (hu2.symm.trans hu')
    subst eu
    refine ⟨_, rfl, wpAny_letOwnedTupleGo_enum (s := { s with heap := h', toks := tk + 1 }) ho fun h2 he2 sb => ?_⟩
    have hT2 : h2.get? s.heap.objs.size = some { cls := .type "tuple", data := .seq #[.int i tk, u2] } := (sb.2 _ (Nat.ne_of_gt hel)).trans hT
    have new : ObjOk X.prog X.w (upd H s.heap.objs.size (.tup [.int (i : Nat), x])) h2 s.heap.objs.size (.tup [.int (i : Nat), x]) :=
      ⟨by show 2 ≤ sizeLine; decide, [.int i tk, u2], .cons ⟨_, rfl⟩ (.cons ru .nil), ⟨_, hT2, rfl, _, rfl⟩⟩
    have J : Inv X pins σ (upd H s.heap.objs.size (.tup [.int (i : Nat), x])) { s with heap := h2, toks := tk + 1 } := by
      refine I.turnedNew (ch := [e, it]) (fun b ob hb q => ?_) hf (Nat.le_refl _) new
      have n1 : b ≠ e := fun z => hb (by rw [z]; exact List.mem_cons_self)
      have n2 : b ≠ it := fun z => hb (by rw [z]; exact List.mem_cons_of_mem _ List.mem_cons_self)
      exact (sb.2 b n1).trans (hk b ob n1 n2 q)
    refine ⟨.ref s.heap.objs.size, _, J, rfl, ⟨_, x, rfl, I.hok.fresh (Nat.le_refl _), rfl, fun ys hy => ?_⟩, ⟨⟨u2, ?_⟩, st'.1.at fun o q => (sb.2 it (Ne.symm hne)).trans q, hne⟩, fun b hb => ?_⟩
    · rw [I.tuple_inj hy hq]
      exact hx
    · have e1 : ((i + 1 : Nat) : Int) = (i : Int) + 1 := by omega
      rw [e1]
      exact he2
    · have nb : b ≠ s.heap.objs.size := by
        rcases List.mem_cons.mp hb with z | z
        · rw [z]
          exact Nat.ne_of_lt hel
        · rw [List.mem_singleton.mp z]
          exact Nat.ne_of_lt hil
      rw [upd_ne nb]
      exact (hf b hb).1
  done := by
    intro X hP hw hK hc i pins s σ H E I hf st hg
    subst hP hw hK
    obtain ⟨⟨old, he⟩, hit, hne⟩ := st
    obtain ⟨xs, hq, hx⟩ := hg
    obtain ⟨its, rv, p, hz⟩ := I.tuple hq
    have hl := rv.length
    have hi : its.toArray.size = i := by
      rw [List.size_toArray]
      omega
    obtain ⟨f0, f1, f2, f3, f4, f5⟩ := hf it (List.mem_cons_of_mem _ List.mem_cons_self)
    refine wpAny_pyNext_enum_endD (Draws.tuple (prog := X.prog) (w := X.w) (A := X.A.in1) (I.ok.hd hc) it a hai its.toArray) he ?_ fun h' eb => ⟨rfl, I.turned (t' := s.toks) (fun b o hb q => eb b o hb q) f0 f1 f3 f4 f5⟩
    rw [hi]
    exact ⟨hit, p⟩
  self := fun A i s Q E st h => by
    obtain ⟨⟨_, he⟩, _⟩ := st
    exact wpAny_pyIter_enum he h
def iEnumT (K : PySem.W.Frag) (ta : TA) : TI := fun σ H R => ta σ H fun vs H1 => ∃ a xs, vs = [.ref a] ∧ SqT K H1 a xs ∧ R (IteT K a) H1
/-- enumerate of a list | a tuple -/
def IteQ (K : PySem.W.Frag) (b : Bool) (a : Addr) : It := match b with
  | false => Ite K a
  | true => IteT K a
def iEnumQ (K : PySem.W.Frag) (ta : TA) : TI := fun σ H R => ta σ H fun vs H1 => ∃ a b xs, vs = [.ref a] ∧ Sq K b H1 a xs ∧ R (IteQ K b a) H1
theorem pi_enumQ {X : Cx} {e : Expr} {ta : TA} {p pos tpos : Pos} {elts : List Expr} {kk : Nat} (hg : Gl X "enumerate") (hm : X.mg "enumerate" = none) (ha : PA X [e] ta) (hs : starEach [e] X.env = [(false, eval e X.env)] := by rfl) :
    PI X (.Tuple elts kk tpos) (.Call (.Name "enumerate" p) [e] [] pos) (iEnumQ X.K ta) := by
  refine ⟨fun pins s σ H R I h => Call_ (ld_blt I hg hm boot_enumerate (PyProof.Rows.callWith_type1 (thn (ha.run pos pins s σ H _ I h) fun us s1 ⟨vs, H1, I1, r1, a, b, xs, ex, hq, q⟩ => ?_) hs rfl))⟩
  subst ex
  obtain ⟨u, rfl, ru⟩ := vals1 r1
  cases ru
  have fp : ∀ c ∈ [s1.heap.objs.size + 1, s1.heap.objs.size], FpOk X pins H1 c := fun c hc => by
    have hle : s1.heap.objs.size ≤ c := by
      rcases List.mem_cons.mp hc with z | z
      · rw [z]
        exact Nat.le_add_right _ _
      · rw [List.mem_singleton.mp z]
        exact Nat.le_refl _
    exact I1.fpOk hle (I1.hok.fresh hle)
  cases b with
  | false =>
    obtain ⟨its, rv, pl, hz⟩ := I1.list hq
    refine call_enumerate_list pl.isList fun h' he hit hsz hk => wpAny_pyIter_enum he ?_
    exact ⟨s1.heap.objs.size + 1, [s1.heap.objs.size + 1, s1.heap.objs.size], _, _, H1, rfl, I1.kept (t' := s1.toks) hk, turn_enum a _ _, ⟨⟨.none, he⟩, hit, Nat.succ_ne_self _⟩, fp, q⟩
  | true =>
    obtain ⟨its, rv, pl, hz⟩ := I1.tuple hq
    have al : a < s1.heap.objs.size := by
      obtain ⟨o, e1, _⟩ := pl
      exact Heap.lt_size e1
    refine call_enum1 (begins_tuple a its.toArray) pl fun h' he hit hk => wpAny_pyIter_enum he ?_
    exact ⟨s1.heap.objs.size + 1, [s1.heap.objs.size + 1, s1.heap.objs.size], _, _, H1, rfl, I1.kept (t' := s1.toks) hk, turn_enumT a _ _ (Nat.ne_of_lt al) (Nat.ne_of_lt (Nat.lt_succ_of_lt al)), ⟨⟨.none, he⟩, ⟨_, hit, rfl, rfl⟩, Nat.succ_ne_self _⟩, fp, q⟩
theorem walk_enumQ {K : PySem.W.Frag} {a : Addr} {xs : List V} (b : Bool) : Walk (IteQ K b a) xs.length (fun H => Sq K b H a xs) (YPair (fun i => some (.int (i : Nat))) (fun i => xs[i]?)) := by
  cases b with
  | false => exact walk_enum
  | true =>
    refine ⟨fun i _ hi q => ⟨xs, xs[i], q, by simp [hi]⟩, fun _ q => ⟨xs, q, rfl⟩, fun i H v H' _ q y => ?_⟩
    obtain ⟨T, x, h1, h2, h3, h4⟩ := y
    exact ⟨T, .int (i : Nat), x, h1, h2, h3, rfl, h4 xs q⟩
/-! ### repr of data -/
def rReprD (K : PySem.W.Frag) : List V → Hp → VK → Prop := fun vs H Q => ∃ (p : Addr) (d : PyData), vs = [.ref p] ∧ Dp K H (.ref p) d ∧ d.showable = true ∧ d.hasDict = false ∧ d.depth ≤ 8 ∧ d.shown.length ≤ sizeLine ∧ Q (.str d.shown) H
theorem cr_reprD {X : Cx} {k : Nat} (hr : Room k X.A) (hg : X.A.guards = some []) : CallR X (.builtin "repr") (rReprD X.K) := by
  intro pins s σ H vs us Q I r h
  obtain ⟨p, d, rfl, hd, h1, h2, h3, h4, q⟩ := h
  obtain ⟨u, rfl, ru⟩ := vals1 r
  obtain ⟨as, hR⟩ := Dp.reads I d (.ref p) u hd ru
  cases ru
  have hu := hr.units
  refine repr_of_reads' hR h1 (fun z => ?_) hg (by omega) (fun _ _ e => e) (fun h' u tk k => ⟨.str d.shown, H, I.kept k, ⟨_, rfl⟩, q⟩) h4
  rw [h2] at z
  cases z
end K12L

set_option Elab.async false
set_option linter.all false
set_option maxRecDepth 100000
set_option maxHeartbeats 4000000
/-! The program's own errors: made, raised. -/
namespace K12X
open PySem PySem.W PySem.Calls PyProof.Rows PySem.HandSPX L2 K12
/-- what an own __init__ leaves of a fresh exception at x -/
structure InitEnd (h h' : Heap) (x C : Addr) (d : Option Addr) (t1 : Addr) (m : Str → Option Value) : Prop where
  keep : ∀ b o, b ≠ x → h.get? b = some o → h'.get? b = some o
  obj : h'.get? x = some { cls := .ref C, dict := d, data := .fields #[.ref t1, .none, .none, .none, .bool false, .none] }
  dic : ∀ dx, d = some dx → h.objs.size ≤ dx ∧ dx ≠ x ∧ h'.Ns1 dx m
/-- a made exception -/
structure Made (h h' : Heap) (e C : Addr) (d : Option Addr) (m : Str → Option Value) : Prop where
  keep : ∀ b o, h.get? b = some o → h'.get? b = some o
  new : h.objs.size ≤ e
  obj : ∃ t1 : Addr, h'.get? e = some { cls := .ref C, dict := d, data := .fields #[.ref t1, .none, .none, .none, .bool false, .none] }
  dic : ∀ dx, d = some dx → h.objs.size ≤ dx ∧ dx ≠ e ∧ h'.Ns1 dx m
/-- the class PurseError at CP: where its __init__ is found -/
structure BaseTxt (K : Frag) (CP : Addr) : Prop where
  ga : specialIn K (.ref CP) "__getattribute__" = some (some (.builtin "type.__getattribute__"))
  rd : readsIn K CP (.type "type") = true
  init : findCls K (.ref CP) (.type "type") "__init__" = some (.val (.builtin "ValueError.__init__"))
/-- an own error at C whose __init__, at fI, is the statement st of the text (no captured name) -/
structure OwnTxt (K : Frag) (C fI : Addr) (qual : Str) (st : Stmt) : Prop where
  c : OexC K C
  iC : findIn K (.ref C) "__init__" = some (some (.ref fI))
  tC : typeIn K (.ref fI) = some (.type "function")
  fn : ∃ (oc : Value) (od : Option Addr) (kV doc pm : Value) (an : Option Addr) (cdv ct : Value) (osl : Array (Option Value)),
    K.lookup fI = some ⟨oc, od, .func (fnOf "__init__" qual (defArgs st) (defBody st) (defScope st) .none kV doc pm an cdv ct), osl⟩ ∧ codeIn K cdv qual = true
section
variable {prog : Program} {w : World} {A : Around} {E : Value → Shared → Prop} {R : Result → Shared → Prop} {s : Shared} {K : Frag} {mg : Str → Option Value} {C CP fI : Addr}
theorem ldC {M : Model} {s : Shared} {name : Str} {scope : Scope} {L a : Addr} {cd : Value} {m : Str → Option Value} {x : Str} {pos : Pos} {v : Value} {Q : Value → Shared → Prop} {A : Around} {E : Value → Shared → Prop} (hn : s.heap.Ns L m) (hv : m x = some v) (h : Q v s)
    (hk : scope.kind = .function := by rfl) (hl : (envOfC name scope L a cd).kindOf x = some .local := by rfl) (hd : (x == ("__debug__" : Str)) = false := by decide) :
    wpAny M A (eval (.Name x pos) (envOfC name scope L a cd)) Q E s := wpAny_Name (wpAny_loadName_local hk hl hn hv h) hd
theorem fits2 (v u : Value) : [v, u].length ≤ sizeLine := by
  rw [sizeLine_eq]
  exact (by decide : 2 ≤ 16777216)
theorem fits1 (v : Value) : [v].length ≤ sizeLine := by
  rw [sizeLine_eq]
  exact (by decide : 1 ≤ 16777216)
/-- PurseError.__init__(self, 'text') in such an __init__ -/
theorem base_init {x t0 : Addr} {env : Env} {m : Str → Option Value} {p0 p1 p2 p3 p4 : Pos} {j : Nat} {txt : Str} {pl : Sem Bool} {Q : Value → Shared → Prop} (B : BaseTxt K CP) (T : OexC K C) (X : K.In s.heap) (hns : s.heap.Ns mainGlobals mg) (gP : mg "PurseError" = some (.ref CP))
    (hk : env.scope.kind = .function) (hgl : env.globals = mainGlobals) (hP : env.kindOf "PurseError" = some .globalImplicit) (hself : env.kindOf "self" = some .local) (hn : s.heap.Ns env.locals m) (hm : m "self" = some (.ref x)) (hx : s.heap.get? x = some (excO C t0))
    (hev : eval (.Call (.Attribute (.Name "PurseError" p0) "__init__" p1) [.Name "self" p2, .Constant (.str txt) j p3] [] p4) env = (do
      let ov ← eval (.Name "PurseError" p0) env
      standAt p1.atName
      let (f, first) ← holding [ov] (getMethod ov "__init__" pl)
      callWith p4 f first (backTo p4 (starEach [.Name "self" p2, .Constant (.str txt) j p3] env)) (backToKw p4 (keywordEach [] env))))
    (h : ∀ h' tk t1, (∀ b o, b ≠ x → s.heap.get? b = some o → h'.get? b = some o) → h'.get? x = some (excO C t1) → Q .none { s with heap := h', toks := tk }) :
    wpAny (model prog w) A (eval (.Call (.Attribute (.Name "PurseError" p0) "__init__" p1) [.Name "self" p2, .Constant (.str txt) j p3] [] p4) env) Q E s := by
  obtain ⟨nm, q, N, bs, bm, sn, sub, ab, col, dd, k0, k1, k2, k3, k5, hC, hbm⟩ := T.cls
  refine PySem.W.methodCall_KW (Calls.Name_function_global hk hP (Calls.loadGlobal_global (by rw [hgl]; exact hns) gP ?_) (by decide)) hev
  refine method_cls X B.ga (cls_value X B.rd B.init (by decide +kernel) ?_)
  refine PyProof.Rows.callWith_method1 ?_ (by rfl) (by rfl)
  show wpAny _ _ (spliced ((false, eval (.Name "self" p2) env) :: backTo p4 (starEach [.Constant (.str txt) j p3] env))) _ _ _
  refine Calls.spliced_cons (wpAny_Name (wpAny_loadName_local hk hself hn hm ?_) (by decide))
  show wpAny _ _ (spliced ((false, eval (.Constant (.str txt) j p3) env) :: backTo p4 (starEach [] env))) _ _ _
  refine Calls.spliced_cons (Calls.Constant_str (Calls.spliced_nil ?_))
  obtain ⟨hp, g, d, t, os⟩ := s
  show wpAny _ _ (call (.builtin "ValueError.__init__") [.ref x, .str txt _]) _ _ _
  refine wpAny_call (init_base F.excBase_ValueError (fun Y => refsVE_contains Y bm hbm) (X _ _ hC) hx (fits1 _) fun h' t1 k hx' => ?_)
  exact h h' _ t1 k hx'
/-- the class's data as the machine asks it -/
theorem cls_of (T : OexC K C) : ∃ cd, clsIn K C = some cd ∧ refsVE cd.mro = true ∧ cd.hasDict = true := by
  obtain ⟨nm, q, N, bs, bm, sn, sub, ab, col, dd, k0, k1, k2, k3, k5, hC, hbm⟩ := T.cls
  refine ⟨{ name := nm, bases := bs, mro := .ref C :: bm, ns := N, qualname := q, hasDict := true, slotNames := sn, subclasses := sub, abstract := ab, collection := col, hasDel := false }, ?_, hbm, rfl⟩
  unfold clsIn
  rw [hC] <;> rfl
/-- a name of the env is stored as a field of the fresh exception: the first field -/
theorem field1 {x t0 : Addr} {f : Str} {v : Value} {Q : Unit → Shared → Prop} (T : OexC K C) (X : K.In s.heap) (hx : s.heap.get? x = some (excO C t0)) (hno : findIn K (.ref C) f = some none)
    (h : ∀ h' tk dx, (∀ b o, b ≠ x → s.heap.get? b = some o → h'.get? b = some o) → s.heap.objs.size ≤ dx → dx ≠ x → h'.get? x = some { cls := .ref C, dict := some dx, data := .fields #[.ref t0, .none, .none, .none, .bool false, .none] } →
      h'.Ns1 dx (fun y => if y = f then some v else none) → Q () { s with heap := h', toks := tk }) : wpAny (model prog w) A (setAttr (.ref x) f v) Q E s := by
  obtain ⟨cd, h1, h2, h3⟩ := cls_of T
  obtain ⟨hp, g, d, t, os⟩ := s
  exact set_plain X (ox := excO C t0) (od := none) ⟨hx, rfl, rfl, trivial⟩ T.sa (exc_osa X hx h1 h2 h3 hno fun h' tk dx k dn dne hx' hn' => h h' tk dx k dn dne hx' hn')
/-- a further one -/
theorem field2 {x t0 dx : Addr} {f : Str} {v : Value} {m0 : Str → Option Value} {ns : List Str} {Q : Unit → Shared → Prop} (T : OexC K C) (X : K.In s.heap)
    (hx : s.heap.get? x = some { cls := .ref C, dict := some dx, data := .fields #[.ref t0, .none, .none, .none, .bool false, .none] }) (hns : s.heap.Ns1 dx m0) (hw : Within m0 ns) (hz : ns.length ≤ 1000) (hno : findIn K (.ref C) f = some none)
    (h : ∀ h' tk, (∀ b o, b ≠ dx → s.heap.get? b = some o → h'.get? b = some o) → h'.Ns1 dx (fun y => if y = f then some v else m0 y) → Q () { s with heap := h', toks := tk }) : wpAny (model prog w) A (setAttr (.ref x) f v) Q E s := by
  obtain ⟨cd, h1, h2, h3⟩ := cls_of T
  obtain ⟨oD, _, _, hoD, _, _⟩ := hns.count hw
  obtain ⟨hp, g, d, t, os⟩ := s
  exact set_plain X (ox := { cls := .ref C, dict := some dx, data := .fields #[.ref t0, .none, .none, .none, .bool false, .none] }) (od := some oD) ⟨hx, rfl, rfl, hoD⟩ T.sa
    (PySem.OEX.osa_old X hx hns hw hz h1 h2 h3 hno fun h' tk k hn' => h h' tk k hn')
theorem kept_but {K : Frag} {h h' : Heap} {x : Addr} (X : K.In h) (hx : K.lookup x = none) (k : ∀ b o, b ≠ x → h.get? b = some o → h'.get? b = some o) : K.In h' := fun a o e =>
  k a o (fun z => by rw [z, hx] at e; cases e) (X a o e)
/-- BadChoice.__init__ -/
theorem init_choice {x t0 : Addr} {v : Value} (T : OwnTxt K C fI "BadChoice.__init__" (inClass (top 5) 0)) (B : BaseTxt K CP) (hno : findIn K (.ref C) "place" = some none) (X : K.In s.heap) (hlim : s.heap.NoLimit) (hns : s.heap.Ns mainGlobals mg) (gP : mg "PurseError" = some (.ref CP))
    (hx : s.heap.get? x = some (excO C t0)) (hnx : K.lookup x = none) (hroom : A.depth < recursionLimit)
    (hq : ∀ h' tk dx t1, InitEnd s.heap h' x C (some dx) t1 (fun y => if y = "place" then some v else none) → R (.ok (.ret .none)) { s with heap := h', toks := tk }) :
    codeAny (model prog w) A (.call (.ref fI) ⟨[.ref x, v], []⟩) R s := by
  obtain ⟨oc, od, kV, doc, pm, an, cdv, ct, osl, ho, hcd⟩ := T.fn
  refine Att.call_fn (binds := [("self", .ref x), ("place", v)]) X hlim ho hcd hroom (BindsTo.of_eq (by first | rfl | with_unfolding_all rfl)) (by first | rfl | decide | with_unfolding_all rfl) (fun s1 IC => ?_) rfl rfl rfl
  obtain ⟨h1, tk1, rfl⟩ := IC.toInCall.same
  have k : ∀ b o, s.heap.get? b = some o → h1.get? b = some o := IC.toInCall.keep
  have hn := IC.toInCall.ns
  have X1 : K.In h1 := X.keeps k
  have ne : x ≠ s.heap.objs.size := Nat.ne_of_lt (Heap.lt_size hx)
  have zs : s.heap.objs.size < h1.objs.size := hn.lt
  show wpAny _ _ (execs _ _) _ _ _
  refine wpAny_execs_cons (wpAny_Expr_any (base_init B T.c X1 (hns.keeps k) gP rfl rfl rfl rfl hn (by first | rfl | with_unfolding_all rfl | kernel_rfl) (k _ _ hx) rfl fun h2 tk2 t1 k2 hx2 => ?_) rfl rfl)
  have hn2 := hn.at fun o e => k2 _ o (Ne.symm ne) e
  show wpAny _ _ (execs _ _) _ _ _
  refine wpAny_execs_cons (plainObj_wpAny_Assign_Attribute ?_)
  refine ldC (v := v) hn2 (by first | rfl | with_unfolding_all rfl | kernel_rfl) (ldC (v := .ref x) hn2 (by first | rfl | with_unfolding_all rfl | kernel_rfl) ?_)
  have hnx1 : K.lookup x = none := hnx
  refine field1 T.c (kept_but X1 hnx1 k2) hx2 hno fun h3 tk3 dx k3 dn dne hx3 hn3 => ?_
  show wpAny _ _ (execs _ _) _ _ _
  have z2 : s.heap.objs.size ≤ h2.objs.size := by
    obtain ⟨o, _, _, e, _⟩ := hn2
    exact Nat.le_of_lt (Heap.lt_size e)
  refine wpAny_execs_nil (hq h3 tk3 dx t1 ⟨fun b o hb e => k3 b o hb (k2 b o hb (k b o e)), hx3, fun d' ed => ?_⟩)
  cases ed
  exact ⟨Nat.le_trans z2 dn, dne, hn3⟩
/-- BadLost.__init__ -/
theorem init_lost {x t0 : Addr} (T : OwnTxt K C fI "BadLost.__init__" (inClass (top 6) 0)) (B : BaseTxt K CP) (X : K.In s.heap) (hlim : s.heap.NoLimit) (hns : s.heap.Ns mainGlobals mg) (gP : mg "PurseError" = some (.ref CP))
    (hx : s.heap.get? x = some (excO C t0)) (hroom : A.depth < recursionLimit)
    (hq : ∀ h' tk t1, InitEnd s.heap h' x C none t1 (fun _ => none) → R (.ok (.ret .none)) { s with heap := h', toks := tk }) :
    codeAny (model prog w) A (.call (.ref fI) ⟨[.ref x], []⟩) R s := by
  obtain ⟨oc, od, kV, doc, pm, an, cdv, ct, osl, ho, hcd⟩ := T.fn
  refine Att.call_fn (binds := [("self", .ref x)]) X hlim ho hcd hroom (BindsTo.of_eq (by first | rfl | with_unfolding_all rfl)) (by first | rfl | decide | with_unfolding_all rfl) (fun s1 IC => ?_) rfl rfl rfl
  obtain ⟨h1, tk1, rfl⟩ := IC.toInCall.same
  have k : ∀ b o, s.heap.get? b = some o → h1.get? b = some o := IC.toInCall.keep
  have hn := IC.toInCall.ns
  show wpAny _ _ (execs _ _) _ _ _
  refine wpAny_execs_cons (wpAny_Expr_any (base_init B T.c (X.keeps k) (hns.keeps k) gP rfl rfl rfl rfl hn (by first | rfl | with_unfolding_all rfl | kernel_rfl) (k _ _ hx) rfl fun h2 tk2 t1 k2 hx2 => ?_) rfl rfl)
  show wpAny _ _ (execs _ _) _ _ _
  exact wpAny_execs_nil (hq h2 tk2 t1 ⟨fun b o hb e => k2 b o hb (k b o e), hx2, fun d' ed => nomatch ed⟩)
end
end K12X

set_option Elab.async false
set_option linter.all false
set_option maxRecDepth 100000
set_option maxHeartbeats 4000000
/-! The errors whose __init__ says super().__init__('..'): BadPool, BadWish. -/
namespace K12X
open PySem PySem.W PySem.Calls PyProof.Rows PySem.HandSPX L2 K12
structure SupTxt (prog : Program) (K : Frag) (C fI : Addr) (qual : Str) (st : Stmt) : Prop where
  c : OexC K C
  noP : findIn K (.ref C) "place" = some none
  noW : findIn K (.ref C) "what" = some none
  iC : findIn K (.ref C) "__init__" = some (some (.ref fI))
  tC : typeIn K (.ref fI) = some (.type "function")
  fn : ∃ (oc : Value) (od : Option Addr) (kV doc pm : Value) (an : Option Addr) (cda : Addr) (ct : Value) (osl : Array (Option Value)) (cc : Addr) (vs : Array Value) (file : Str) (tf : Tok) (ccl cl : Value) (cdd cld : Option Addr) (ccs csl : Array (Option Value)),
    K.lookup fI = some ⟨oc, od, .func (fnX "__init__" qual (defArgs st) (defBody st) (defScope st) [("__class__", cc)] .none kV doc pm an (.ref cda) ct), osl⟩ ∧ codeIn K (.ref cda) qual = true ∧
    K.lookup cda = some ⟨ccl, cdd, .fields vs, ccs⟩ ∧ vs[2]? = some (.str file tf) ∧ ((prog.main.file : Str) == file) = true ∧ K.lookup cc = some ⟨cl, cld, .cell (some (.ref C)), csl⟩
  sub : mroIn K C (.ref C) = some true
  tp : nsIn K cStatics "thirdparty.any" = some none
  sup : ks_superIn K C C "__init__" = some (some (.builtin "ValueError.__init__"))
  hB : subIn K (.ref C) (.type "ValueError") = some true
section
variable {prog : Program} {w : World} {A : Around} {E : Value → Shared → Prop} {R : Result → Shared → Prop} {s : Shared} {K : Frag} {mg mb : Str → Option Value} {C fI : Addr}
/-- the method-wrapper called with one text -/
theorem call_mw {u x t0 : Addr} {rest : List Value} {Q : Value → Shared → Prop} (T : OexC K C) (X : K.In s.heap) (hx : s.heap.get? x = some (excO C t0)) (hu : s.heap.get? u = some (kxs_mw "ValueError.__init__" x)) (hz : rest.length ≤ sizeLine)
    (h : ∀ h' t1, (∀ b o, b ≠ x → s.heap.get? b = some o → h'.get? b = some o) → h'.get? x = some (excO C t1) → Q .none { s with heap := h' }) : wpAny (model prog w) A (call (.ref u) rest) Q E s := by
  obtain ⟨nm, q, N, bs, bm, sn, sub, ab, col, dd, k0, k1, k2, k3, k5, hC, hbm⟩ := T.cls
  have hC1 := X _ _ hC
  obtain ⟨hh, g, d, tk, os⟩ := s
  refine wpAny_call (codeAny_of_tree ?_)
  show wpAny _ A.in1 (callAny (.ref u) ⟨rest, []⟩) _ _ _
  simp only [callAny]
  refine wpAny_bind (wpAny_load hu ?_)
  simp only [kxs_mw, show (Value.type "method-wrapper" == Value.type "method" || Value.type "method-wrapper" == Value.type "builtin_function_or_method" || Value.type "method-wrapper" == Value.type "method-wrapper") = true by decide, if_true]
  refine KFB.if_so (by decide) ?_
  refine wpAny_bind (check_bound_init F.excBase_ValueError.toExcCallFacts hC1 hx rfl ?_)
  refine wpAny_bind (wpAny_pure (wpAny_pure ?_))
  refine ⟨plainId_quiet F.excBase_ValueError.init.plain _, codeAny_builtin F.excBase_ValueError.initEntry ?_⟩
  rw [Around.under_plainId F.excBase_ValueError.init.plain _]
  wp_walk
  refine h _ hh.objs.size (fun b o hb ho => ?_) ?_
  · rw [Heap.get?_update_other _ _ (Ne.symm hb)]
    exact Heap.get?_push_of_some _ ho
  · rw [Heap.get?_update_self _ (Heap.get?_push_of_some _ hx) rfl]
    rfl
/-- «BadPool».__init__ -/
theorem init_pool {x t0 : Addr} {v1 v2 : Value} (T : SupTxt prog K C fI "BadPool.__init__" (inClass (top 2) 0)) (X : K.In s.heap) (hlim : s.heap.NoLimit) (hns : s.heap.Ns mainGlobals mg) (hnb : s.heap.Ns builtinsNs mb) (gS : mg "super" = none) (bS : mb "super" = some (.type "super"))
    (htop : (prog.main.scope.names.lookup ("super" : Str)).isSome = false) (hx : s.heap.get? x = some (excO C t0)) (hnx : K.lookup x = none) (hroom : A.depth < recursionLimit)
    (hq : ∀ h' tk dx t1, InitEnd s.heap h' x C (some dx) t1 (fun y => if y = "what" then some v2 else if y = "place" then some v1 else none) → R (.ok (.ret .none)) { s with heap := h', toks := tk }) :
    codeAny (model prog w) A (.call (.ref fI) ⟨[.ref x, v1, v2], []⟩) R s := by
  obtain ⟨oc, od, kV, doc, pm, an, cda, ct, osl, cc, vs, file, tf, ccl, cl, cdd, cld, ccs, csl, ho, hcd, hco, hvs, hfile, hcell⟩ := T.fn
  obtain ⟨nm, q, N, bs, bm, sn, sub, ab, col, dd, k0, k1, k2, k3, k5, hC, hbm⟩ := T.c.cls
  refine ks_codeAny_call_defAt (fd := fnX "__init__" "BadPool.__init__" (defArgs (inClass (top 2) 0)) (defBody (inClass (top 2) 0)) (defScope (inClass (top 2) 0)) [("__class__", cc)] .none kV doc pm an (.ref cda) ct)
    (body := defBody (inClass (top 2) 0)) (binds := [("self", .ref x), ("place", v1), ("what", v2)]) hroom (X _ _ ho) rfl hlim (codeRec_of X hcd) rfl (BindsTo.of_eq (by first | rfl | with_unfolding_all rfl)) (show ∀ y ∈ (defScope (inClass (top 2) 0)).names, y.2 ≠ NameKind.cell by decide +kernel) (fun y hy => ?loc) (fun h1 hn kp => ?_) rfl rfl rfl
  case loc =>
    have l1 : (defScope (inClass (top 2) 0)).names.lookup ("self" : Str) = some NameKind.local := by decide +kernel
    have l2 : (defScope (inClass (top 2) 0)).names.lookup ("place" : Str) = some NameKind.local := by decide +kernel
    have l3 : (defScope (inClass (top 2) 0)).names.lookup ("what" : Str) = some NameKind.local := by decide +kernel
    rcases List.mem_cons.mp hy with e | hy
    · rw [e]
      exact l1
    rcases List.mem_cons.mp hy with e | hy
    · rw [e]
      exact l2
    · rw [List.mem_singleton.mp hy]
      exact l3
  have X1 : K.In h1 := X.keeps kp
  have hx1 := kp _ _ hx
  have ne : x ≠ s.heap.objs.size := Nat.ne_of_lt (Heap.lt_size hx)
  have hncls : ∀ c, (excO C t0).data ≠ .cls c := fun c e => nomatch e
  refine ks_wpAt_execs_cons (ks_wpAt_Expr_any (ks_wpAt_MethodCall ?_) rfl rfl)
  refine ks_wpAt_super_base (fd := fnX "__init__" "BadPool.__init__" (defArgs (inClass (top 2) 0)) (defBody (inClass (top 2) 0)) (defScope (inClass (top 2) 0)) [("__class__", cc)] .none kV doc pm an (.ref cda) ct) rfl rfl rfl rfl (X1 _ _ ho) rfl rfl rfl (X1 _ _ hco) rfl hvs hfile htop ?_
  refine ks_loadName_global rfl rfl (loadGlobal_builtin (hns.keeps kp) gS (hnb.keeps kp) bS ⟨rfl, ?_⟩)
  refine wpAny_loadName_free rfl rfl rfl ⟨_, X1 _ _ hcell, rfl⟩ ?_
  refine wpAny_loadName_local (v := .ref x) rfl rfl hn (by first | rfl | with_unfolding_all rfl | kernel_rfl) ?_
  have hC1 := X1 _ _ hC
  refine ks_wpAny_isType_cls hC1 rfl ⟨rfl, ?_⟩
  refine ks_wpAny_call_super hC1 rfl hx1 rfl hncls (looks_mroIn X1 T.sub) fun h2 hso k2 => ?_
  have X2 : K.In h2 := X1.keeps k2
  have hI : W.InstAt h2 x (excO C t0) C none := ⟨k2 _ _ hx1, rfl, rfl, trivial⟩
  have hm := T.sup
  cases hc : clsIn K C with
  | none =>
    unfold ks_superIn at hm
    rw [hc] at hm
    cases hm
  | some cd =>
    unfold ks_superIn at hm
    rw [hc] at hm
    refine kxs_getMethod kxs_ValueError hso (looks_opaque X2 T.tp) (l₀ := cd.mro) ?_ rfl X2 hm (hI.type.andThen (looks_subIn X2 T.hB)) (ks_ne X2 hI hc) rfl ?_
    · exact fun A Q E s k q => wpAny_bind ((looks_clsIn X2 hc) A _ E s k (wpAny_pure q))
    · refine kxs_callWith (i := "ValueError.__init__") (x := x) (by rfl) ?_
      refine evalArgs_plain ?_
      rw [if_neg Bool.false_ne_true]
      refine Calls.spliced_cons (Calls.Constant_str ?_)
      refine Calls.spliced_nil ⟨Heap.get?_push_at rfl rfl, ?_⟩
      have kk : ∀ b o, h1.get? b = some o → (h2.push (kxs_mw "ValueError.__init__" x)).get? b = some o := fun b o e => Heap.get?_push_of_some _ (k2 _ _ e)
      refine call_mw T.c (X1.keeps kk) (kk _ _ hx1) (Heap.get?_push_at rfl rfl) (fits1 _) fun h3 t1 k3 hx3 => ?_
      have hn3 := (hn.keeps kk).at fun o e => k3 _ o (Ne.symm ne) e
      have X3 : K.In h3 := kept_but (X1.keeps kk) hnx k3
      have sz3 : s.heap.objs.size ≤ h3.objs.size := by
        obtain ⟨o, _, _, e, _⟩ := hn3
        exact Nat.le_of_lt (Heap.lt_size e)
      refine wpAt_of_wpAny ?_
      refine wpAny_execs_cons (plainObj_wpAny_Assign_Attribute ?_)
      refine wpAny_Name (wpAny_loadName_local (v := v1) rfl rfl hn3 (by first | rfl | with_unfolding_all rfl | kernel_rfl) (wpAny_Name (wpAny_loadName_local (v := .ref x) rfl rfl hn3 (by first | rfl | with_unfolding_all rfl | kernel_rfl) ?_) (by decide))) (by decide)
      refine field1 T.c X3 hx3 T.noP fun h4 tk4 dx k4 dn dne hx4 hn4 => ?_
      have hnL4 := hn3.at fun o e => k4 _ o (Ne.symm ne) e
      have X4 : K.In h4 := kept_but X3 hnx k4
      refine wpAny_execs_cons (plainObj_wpAny_Assign_Attribute ?_)
      refine wpAny_Name (wpAny_loadName_local (v := v2) rfl rfl hnL4 (by first | rfl | with_unfolding_all rfl | kernel_rfl) (wpAny_Name (wpAny_loadName_local (v := .ref x) rfl rfl hnL4 (by first | rfl | with_unfolding_all rfl | kernel_rfl) ?_) (by decide))) (by decide)
      refine field2 (ns := ["place"]) T.c X4 hx4 hn4 (Within.cons "place" v1 Within.nil) (by decide) T.noW fun h5 tk5 k5' hn5 => ?_
      refine wpAny_execs_nil (hq h5 tk5 dx t1 ⟨fun b o hb e => ?_, ?_, fun d' ed => ?_⟩)
      · have e2 := kk _ _ (kp _ _ e)
        have e3 := k3 _ _ hb e2
        have lt3 : b < h3.objs.size := Heap.lt_size e3
        exact k5' _ _ (Nat.ne_of_lt (Nat.lt_of_lt_of_le lt3 dn)) (k4 _ _ hb e3)
      · exact k5' _ _ (Ne.symm dne) hx4
      · cases ed
        exact ⟨Nat.le_trans sz3 dn, dne, hn5⟩
/-- «BadWish».__init__ -/
theorem init_wish {x t0 : Addr} {v1 v2 : Value} (T : SupTxt prog K C fI "BadWish.__init__" (inClass (top 4) 0)) (X : K.In s.heap) (hlim : s.heap.NoLimit) (hns : s.heap.Ns mainGlobals mg) (hnb : s.heap.Ns builtinsNs mb) (gS : mg "super" = none) (bS : mb "super" = some (.type "super"))
    (htop : (prog.main.scope.names.lookup ("super" : Str)).isSome = false) (hx : s.heap.get? x = some (excO C t0)) (hnx : K.lookup x = none) (hroom : A.depth < recursionLimit)
    (hq : ∀ h' tk dx t1, InitEnd s.heap h' x C (some dx) t1 (fun y => if y = "what" then some v2 else if y = "place" then some v1 else none) → R (.ok (.ret .none)) { s with heap := h', toks := tk }) :
    codeAny (model prog w) A (.call (.ref fI) ⟨[.ref x, v1, v2], []⟩) R s := by
  obtain ⟨oc, od, kV, doc, pm, an, cda, ct, osl, cc, vs, file, tf, ccl, cl, cdd, cld, ccs, csl, ho, hcd, hco, hvs, hfile, hcell⟩ := T.fn
  obtain ⟨nm, q, N, bs, bm, sn, sub, ab, col, dd, k0, k1, k2, k3, k5, hC, hbm⟩ := T.c.cls
  refine ks_codeAny_call_defAt (fd := fnX "__init__" "BadWish.__init__" (defArgs (inClass (top 4) 0)) (defBody (inClass (top 4) 0)) (defScope (inClass (top 4) 0)) [("__class__", cc)] .none kV doc pm an (.ref cda) ct)
    (body := defBody (inClass (top 4) 0)) (binds := [("self", .ref x), ("place", v1), ("what", v2)]) hroom (X _ _ ho) rfl hlim (codeRec_of X hcd) rfl (BindsTo.of_eq (by first | rfl | with_unfolding_all rfl)) (show ∀ y ∈ (defScope (inClass (top 4) 0)).names, y.2 ≠ NameKind.cell by decide +kernel) (fun y hy => ?loc) (fun h1 hn kp => ?_) rfl rfl rfl
  case loc =>
    have l1 : (defScope (inClass (top 4) 0)).names.lookup ("self" : Str) = some NameKind.local := by decide +kernel
    have l2 : (defScope (inClass (top 4) 0)).names.lookup ("place" : Str) = some NameKind.local := by decide +kernel
    have l3 : (defScope (inClass (top 4) 0)).names.lookup ("what" : Str) = some NameKind.local := by decide +kernel
    rcases List.mem_cons.mp hy with e | hy
    · rw [e]
      exact l1
    rcases List.mem_cons.mp hy with e | hy
    · rw [e]
      exact l2
    · rw [List.mem_singleton.mp hy]
      exact l3
  have X1 : K.In h1 := X.keeps kp
  have hx1 := kp _ _ hx
  have ne : x ≠ s.heap.objs.size := Nat.ne_of_lt (Heap.lt_size hx)
  have hncls : ∀ c, (excO C t0).data ≠ .cls c := fun c e => nomatch e
  refine ks_wpAt_execs_cons (ks_wpAt_Expr_any (ks_wpAt_MethodCall ?_) rfl rfl)
  refine ks_wpAt_super_base (fd := fnX "__init__" "BadWish.__init__" (defArgs (inClass (top 4) 0)) (defBody (inClass (top 4) 0)) (defScope (inClass (top 4) 0)) [("__class__", cc)] .none kV doc pm an (.ref cda) ct) rfl rfl rfl rfl (X1 _ _ ho) rfl rfl rfl (X1 _ _ hco) rfl hvs hfile htop ?_
  refine ks_loadName_global rfl rfl (loadGlobal_builtin (hns.keeps kp) gS (hnb.keeps kp) bS ⟨rfl, ?_⟩)
  refine wpAny_loadName_free rfl rfl rfl ⟨_, X1 _ _ hcell, rfl⟩ ?_
  refine wpAny_loadName_local (v := .ref x) rfl rfl hn (by first | rfl | with_unfolding_all rfl | kernel_rfl) ?_
  have hC1 := X1 _ _ hC
  refine ks_wpAny_isType_cls hC1 rfl ⟨rfl, ?_⟩
  refine ks_wpAny_call_super hC1 rfl hx1 rfl hncls (looks_mroIn X1 T.sub) fun h2 hso k2 => ?_
  have X2 : K.In h2 := X1.keeps k2
  have hI : W.InstAt h2 x (excO C t0) C none := ⟨k2 _ _ hx1, rfl, rfl, trivial⟩
  have hm := T.sup
  cases hc : clsIn K C with
  | none =>
    unfold ks_superIn at hm
    rw [hc] at hm
    cases hm
  | some cd =>
    unfold ks_superIn at hm
    rw [hc] at hm
    refine kxs_getMethod kxs_ValueError hso (looks_opaque X2 T.tp) (l₀ := cd.mro) ?_ rfl X2 hm (hI.type.andThen (looks_subIn X2 T.hB)) (ks_ne X2 hI hc) rfl ?_
    · exact fun A Q E s k q => wpAny_bind ((looks_clsIn X2 hc) A _ E s k (wpAny_pure q))
    · refine kxs_callWith (i := "ValueError.__init__") (x := x) (by rfl) ?_
      refine evalArgs_plain ?_
      rw [if_neg Bool.false_ne_true]
      refine Calls.spliced_cons (Calls.Constant_str ?_)
      refine Calls.spliced_nil ⟨Heap.get?_push_at rfl rfl, ?_⟩
      have kk : ∀ b o, h1.get? b = some o → (h2.push (kxs_mw "ValueError.__init__" x)).get? b = some o := fun b o e => Heap.get?_push_of_some _ (k2 _ _ e)
      refine call_mw T.c (X1.keeps kk) (kk _ _ hx1) (Heap.get?_push_at rfl rfl) (fits1 _) fun h3 t1 k3 hx3 => ?_
      have hn3 := (hn.keeps kk).at fun o e => k3 _ o (Ne.symm ne) e
      have X3 : K.In h3 := kept_but (X1.keeps kk) hnx k3
      have sz3 : s.heap.objs.size ≤ h3.objs.size := by
        obtain ⟨o, _, _, e, _⟩ := hn3
        exact Nat.le_of_lt (Heap.lt_size e)
      refine wpAt_of_wpAny ?_
      refine wpAny_execs_cons (plainObj_wpAny_Assign_Attribute ?_)
      refine wpAny_Name (wpAny_loadName_local (v := v1) rfl rfl hn3 (by first | rfl | with_unfolding_all rfl | kernel_rfl) (wpAny_Name (wpAny_loadName_local (v := .ref x) rfl rfl hn3 (by first | rfl | with_unfolding_all rfl | kernel_rfl) ?_) (by decide))) (by decide)
      refine field1 T.c X3 hx3 T.noP fun h4 tk4 dx k4 dn dne hx4 hn4 => ?_
      have hnL4 := hn3.at fun o e => k4 _ o (Ne.symm ne) e
      have X4 : K.In h4 := kept_but X3 hnx k4
      refine wpAny_execs_cons (plainObj_wpAny_Assign_Attribute ?_)
      refine wpAny_Name (wpAny_loadName_local (v := v2) rfl rfl hnL4 (by first | rfl | with_unfolding_all rfl | kernel_rfl) (wpAny_Name (wpAny_loadName_local (v := .ref x) rfl rfl hnL4 (by first | rfl | with_unfolding_all rfl | kernel_rfl) ?_) (by decide))) (by decide)
      refine field2 (ns := ["place"]) T.c X4 hx4 hn4 (Within.cons "place" v1 Within.nil) (by decide) T.noW fun h5 tk5 k5' hn5 => ?_
      refine wpAny_execs_nil (hq h5 tk5 dx t1 ⟨fun b o hb e => ?_, ?_, fun d' ed => ?_⟩)
      · have e2 := kk _ _ (kp _ _ e)
        have e3 := k3 _ _ hb e2
        have lt3 : b < h3.objs.size := Heap.lt_size e3
        exact k5' _ _ (Nat.ne_of_lt (Nat.lt_of_lt_of_le lt3 dn)) (k4 _ _ hb e3)
      · exact k5' _ _ (Ne.symm dne) hx4
      · cases ed
        exact ⟨Nat.le_trans sz3 dn, dne, hn5⟩
end
end K12X

set_option Elab.async false
set_option linter.all false
set_option maxRecDepth 100000
set_option maxHeartbeats 4000000
/-! The program's own errors, called and raised. -/
namespace K12X
open PySem PySem.W PySem.Calls PyProof.Rows PySem.HandSPX L2 K12
section
variable {prog : Program} {w : World} {A : Around} {R : Result → Shared → Prop} {s : Shared} {K : Frag} {C fI : Addr}
/-- such a class called: made, its own __init__ run -/
theorem made_gen {rest : List Value} {m : Str → Option Value} {P : Option Addr → Prop} (T : OexC K C) (iC : findIn K (.ref C) "__init__" = some (some (.ref fI))) (tC : typeIn K (.ref fI) = some (.type "function"))
    (X : K.In s.heap) (hlim : s.heap.NoLimit) (hroom : A.depth + 1 < recursionLimit) (hz : rest.length ≤ sizeLine)
    (hinit : ∀ (A' : Around) (s' : Shared) (x t0 : Addr) (R' : Result → Shared → Prop), (∀ b o, s.heap.get? b = some o → s'.heap.get? b = some o) → s'.heap.get? x = some (excO C t0) → K.lookup x = none → A'.depth < recursionLimit →
      (∀ h' tk d t1, P d → InitEnd s'.heap h' x C d t1 m → R' (.ok (.ret .none)) { s' with heap := h', toks := tk }) → codeAny (model prog w) A' (.call (.ref fI) ⟨.ref x :: rest, []⟩) R' s')
    (hq : ∀ h' tk e d, P d → Made s.heap h' e C d m → R (.ok (.ret (.ref e))) { s with heap := h', toks := tk }) :
    codeAny (model prog w) A (.call (.ref C) ⟨rest, []⟩) R s := by
  obtain ⟨nm, q, N, bs, bm, sn, sub, ab, col, dd, k0, k1, k2, k3, k5, hC, hbm⟩ := T.cls
  obtain ⟨hp, g, dr, tk, os⟩ := s
  have k : ∀ b o, hp.get? b = some o → ((hp.push (kdv_tup rest)).push (excO C hp.objs.size)).get? b = some o := fun b o e => Heap.get?_push_of_some _ (Heap.get?_push_of_some _ e)
  have hget : ((hp.push (kdv_tup rest)).push (excO C hp.objs.size)).get? (hp.objs.size + 1) = some (excO C hp.objs.size) := by heap_get
  have hnx : K.lookup (hp.objs.size + 1) = none := by
    cases e : K.lookup (hp.objs.size + 1) with
    | none => rfl
    | some o =>
      have z : hp.get? (hp.objs.size + 1) = some o := X _ _ e
      exact absurd (Nat.lt_of_succ_lt (Heap.lt_size z)) (Nat.lt_irrefl _)
  refine call_own F.excBase_ValueError (fun X => refsVE_contains X bm hbm) (X _ _ hC) (looks_findIn X iC) (fun self => bind_fn X self tC) hz ?_
  refine hinit _ ⟨(hp.push (kdv_tup rest)).push (excO C hp.objs.size), g, dr, tk, os⟩ (hp.objs.size + 1) hp.objs.size _ k hget hnx ?_ fun h' tk' d t1 hP ⟨k', hx, hd⟩ => ?_
  · show A.depth + 1 < recursionLimit
    exact hroom
  · have old : ∀ b o, hp.get? b = some o → h'.get? b = some o := fun b o e => k' b o (Nat.ne_of_lt (Nat.lt_succ_of_lt (Heap.lt_size e))) (k b o e)
    refine ⟨rfl, hq h' tk' (hp.objs.size + 1) d hP ⟨old, Nat.le_succ _, ⟨t1, hx⟩, fun dx ed => ?_⟩⟩
    obtain ⟨dn, dne, hns⟩ := hd dx ed
    have z : hp.objs.size + 1 + 1 ≤ dx := by
      first
        | (simpa only [Heap.size_push] using dn)
        | exact dn
        | (have q := dn; rw [Heap.size_push, Heap.size_push] at q; exact q)
    exact ⟨Nat.le_trans (Nat.le_trans (Nat.le_succ _) (Nat.le_succ _)) z, dne, hns⟩
end
end K12X
namespace L2
open PySem PySem.Spec PyProof.Rows K12
section
variable {X : Cx} {C fI CP : Addr} {x : Str} {p pos : Pos}
/-- a made error with its own dict, as a raise wants it -/
theorem mk_dict {pins : List (Addr × Obj)} {σ : St} {H1 : Hp} {Q : XK} {hp h' : Heap} {g : Array GenState} {dr : Drawn} {tk tk' : Nat} {os : OsState} {e d : Addr} {m : Str → Option Value} {fs : List (Str × V)} (T : PySem.W.subIn X.K (.ref C) (.type "BaseException") = some true) (Ty : PySem.W.typeIn X.K (.ref C) = some (.type "type"))
    (I1 : Inv X pins σ H1 ⟨hp, g, dr, tk, os⟩) (M : K12X.Made hp h' e C (some d) m) (rel : ∀ f, RelO (fs.lookup f) (m f)) (q : ∀ d, H1 d = none → Q (.ref C) (some d) (upd H1 d (.xd fs))) :
    MkP X pins σ Q (.ref e) ⟨h', g, dr, tk', os⟩ := by
  obtain ⟨t1, hoe⟩ := M.obj
  obtain ⟨dn, dne, hns⟩ := M.dic d rfl
  obtain ⟨G', g1, g2⟩ := restrict h' fun b => decide (b ≠ e)
  have gk : ∀ b, b ≠ e → G'.get? b = h'.get? b := fun b hb => g1 b (decide_eq_true hb)
  have ge : G'.get? e = none := g2 e (by simp)
  have old : ∀ b o, hp.get? b = some o → G'.get? b = some o := fun b o q => (gk b (Nat.ne_of_lt (Nat.lt_of_lt_of_le (Heap.lt_size q) M.new))).trans (M.keep b o q)
  have ob : ObjOk X.prog X.w (upd H1 d (.xd fs)) G' d (.xd fs) := ⟨_, hns.at (fun o q => (gk d dne).trans q), rel⟩
  have J : Inv X pins σ (upd H1 d (.xd fs)) ⟨G', g, dr, tk', os⟩ := I1.laid (t' := tk') old dn ob
  refine ⟨e, _, _, ⟨G', g, dr, tk', os⟩, _, .ref C, some d, rfl, J, fun b o q => ?_, ge, hoe, ⟨rfl, rfl⟩, rfl, rfl, ?_, rfl, I1.bare, raises_own T Ty, q d (I1.hok.fresh dn)⟩
  · by_cases hb : b = e
    · have q' : G'.get? b = some o := q
      rw [hb, ge] at q'; cases q'
    · exact (gk b hb).symm.trans q
  · rw [upd_ne (Ne.symm dne)]
    exact I1.hok.fresh M.new
/-- a made error without a dict -/
theorem mk_bare {pins : List (Addr × Obj)} {σ : St} {H1 : Hp} {Q : XK} {hp h' : Heap} {g : Array GenState} {dr : Drawn} {tk tk' : Nat} {os : OsState} {e : Addr} {m : Str → Option Value} (T : PySem.W.subIn X.K (.ref C) (.type "BaseException") = some true) (Ty : PySem.W.typeIn X.K (.ref C) = some (.type "type"))
    (I1 : Inv X pins σ H1 ⟨hp, g, dr, tk, os⟩) (M : K12X.Made hp h' e C none m) (q : Q (.ref C) none H1) : MkP X pins σ Q (.ref e) ⟨h', g, dr, tk', os⟩ := by
  obtain ⟨t1, hoe⟩ := M.obj
  obtain ⟨G', g1, g2⟩ := restrict h' fun b => decide (b ≠ e)
  have gk : ∀ b, b ≠ e → G'.get? b = h'.get? b := fun b hb => g1 b (decide_eq_true hb)
  have ge : G'.get? e = none := g2 e (by simp)
  have old : ∀ b o, hp.get? b = some o → G'.get? b = some o := fun b o q => (gk b (Nat.ne_of_lt (Nat.lt_of_lt_of_le (Heap.lt_size q) M.new))).trans (M.keep b o q)
  have J : Inv X pins σ H1 ⟨G', g, dr, tk', os⟩ := I1.kept (t' := tk') old
  refine ⟨e, _, _, ⟨G', g, dr, tk', os⟩, _, .ref C, none, rfl, J, fun b o q => ?_, ge, hoe, ⟨rfl, rfl⟩, rfl, rfl, I1.hok.fresh M.new, rfl, I1.bare, raises_own T Ty, q⟩
  by_cases hb : b = e
  · have q' : G'.get? b = some o := q
    rw [hb, ge] at q'; cases q'
  · exact (gk b hb).symm.trans q
theorem relO2 {v1 v2 : V} {u1 u2 : Value} (r1 : RelV v1 u1) (r2 : RelV v2 u2) (f : Str) : RelO (List.lookup f [(("what" : Str), v2), (("place" : Str), v1)]) (if f = "what" then some u2 else if f = "place" then some u1 else none) := by
  by_cases hw : f = "what"
  · subst hw
    rw [if_pos rfl]
    have q : List.lookup ("what" : Str) [(("what" : Str), v2), (("place" : Str), v1)] = some v2 := by simp [List.lookup]
    rw [q]
    exact r2
  · rw [if_neg hw]
    have qw : (f == ("what" : Str)) = false := by simpa using hw
    by_cases hp : f = "place"
    · subst hp
      rw [if_pos rfl]
      have q : List.lookup ("place" : Str) [(("what" : Str), v2), (("place" : Str), v1)] = some v1 := by simp [List.lookup, qw]
      rw [q]
      exact r1
    · rw [if_neg hp]
      have qp : (f == ("place" : Str)) = false := by simpa using hp
      have q2 : List.lookup f [(("what" : Str), v2), (("place" : Str), v1)] = none := by simp [List.lookup, qw, qp]
      rw [q2]
      trivial
theorem relO1 {v1 : V} {u1 : Value} (r1 : RelV v1 u1) (f : Str) : RelO (List.lookup f [(("place" : Str), v1)]) (if f = "place" then some u1 else none) := by
  by_cases hp : f = "place"
  · subst hp
    rw [if_pos rfl]
    have q : List.lookup ("place" : Str) [(("place" : Str), v1)] = some v1 := by simp [List.lookup]
    rw [q]
    exact r1
  · rw [if_neg hp]
    have qp : (f == ("place" : Str)) = false := by simpa using hp
    have q2 : List.lookup f [(("place" : Str), v1)] = none := by simp [List.lookup, qp]
    rw [q2]
    trivial
/-- X(place, what) : BadPool, BadWish -/
def tMk2 (C : Addr) (t : TA) : St → Hp → XK → Prop := fun σ H Q => t σ H fun vs H1 => ∃ v1 v2, vs = [v1, v2] ∧ ∀ d, H1 d = none → Q (.ref C) (some d) (upd H1 d (.xd [("what", v2), ("place", v1)]))
def tMk1 (C : Addr) (t : TA) : St → Hp → XK → Prop := fun σ H Q => t σ H fun vs H1 => ∃ v1, vs = [v1] ∧ ∀ d, H1 d = none → Q (.ref C) (some d) (upd H1 d (.xd [("place", v1)]))
theorem ns_of {pins : List (Addr × Obj)} {σ : St} {H : Hp} {s : Shared} (I : Inv X pins σ H s) : s.heap.Ns mainGlobals X.mg ∧ ∃ mb, s.heap.Ns builtinsNs mb ∧ mb "super" = some (.type "super") := by
  obtain ⟨mb, h1, h2⟩ := I.mod.blt
  exact ⟨I.mod.glob.keeps I.bk, mb, h1.keeps I.bk, (h2 "super" (by decide)).trans (by decide +kernel)⟩
theorem pmk_pool {e : Expr} {es : List Expr} {t : TA} {k : Nat} (T : K12X.SupTxt X.prog X.K C fI "BadPool.__init__" (inClass (K12.top 2) 0)) (htop : (X.prog.main.scope.names.lookup ("super" : Str)).isSome = false) (gS : X.mg "super" = none)
    (gC : X.mg x = some (.ref C)) (hr : Room k X.A) (hg : Gl X x) (ha : PA X (e :: es) t) (hdb : (x == ("__debug__" : Str)) = false := by decide)
    (he : starEach (e :: es) X.env = (false, eval e X.env) :: starEach es X.env := by rfl) (hpl : (backTo pos (starEach es X.env)).any (·.1) = false := by rfl) :
    PMk X (.Call (.Name x p) (e :: es) [] pos) (tMk2 C t) := by
  intro pins s σ H Q I h
  refine wpAny_Call_Name_kw (ld_glob I hg gC ?_ hdb)
  refine PySem.W.callWith_K (h₀ := X.base) I.ok.mod.kin T.c.kC (thn (ha.run pos pins s σ H _ I h) fun us s1 hh => ?_) he hpl
  obtain ⟨vs, H1, I1, r1, v1, v2, ev, q1⟩ := hh
  subst ev
  refine ⟨I1.kIn, ?_⟩
  cases r1 with
  | cons rv rn =>
    rename_i u1 us'
    cases rn with
    | cons rv2 rn2 =>
      rename_i u2 us2
      cases rn2
      show wpAny _ _ (call (.ref C) [u1, u2]) _ _ _
      have hlim := I1.nolimit
      obtain ⟨hG, mb, hB, hs⟩ := ns_of I1
      obtain ⟨hp, g, dr, tk, os⟩ := s1
      refine wpAny_call (K12X.made_gen (P := fun d => ∃ dx, d = some dx) (m := fun y => if y = "what" then some u2 else if y = "place" then some u1 else none) T.c T.iC T.tC I1.kIn hlim (by have := hr.dp; omega) (K12X.fits2 _ _)
        (fun A' s' x t0 R' kk hx hnx hd hq => K12X.init_pool T (I1.kIn.keeps kk) (hlim.keeps kk) (hG.keeps kk) (hB.keeps kk) gS hs htop hx hnx hd fun h' tk dx t1 ie => hq h' tk _ t1 ⟨dx, rfl⟩ ie) fun h' tk' e d hP M => ?_)
      obtain ⟨dx, rfl⟩ := hP
      exact mk_dict T.c.exC T.c.tyC I1 M (relO2 rv rv2) q1
theorem pmk_wish {e : Expr} {es : List Expr} {t : TA} {k : Nat} (T : K12X.SupTxt X.prog X.K C fI "BadWish.__init__" (inClass (K12.top 4) 0)) (htop : (X.prog.main.scope.names.lookup ("super" : Str)).isSome = false) (gS : X.mg "super" = none)
    (gC : X.mg x = some (.ref C)) (hr : Room k X.A) (hg : Gl X x) (ha : PA X (e :: es) t) (hdb : (x == ("__debug__" : Str)) = false := by decide)
    (he : starEach (e :: es) X.env = (false, eval e X.env) :: starEach es X.env := by rfl) (hpl : (backTo pos (starEach es X.env)).any (·.1) = false := by rfl) :
    PMk X (.Call (.Name x p) (e :: es) [] pos) (tMk2 C t) := by
  intro pins s σ H Q I h
  refine wpAny_Call_Name_kw (ld_glob I hg gC ?_ hdb)
  refine PySem.W.callWith_K (h₀ := X.base) I.ok.mod.kin T.c.kC (thn (ha.run pos pins s σ H _ I h) fun us s1 hh => ?_) he hpl
  obtain ⟨vs, H1, I1, r1, v1, v2, ev, q1⟩ := hh
  subst ev
  refine ⟨I1.kIn, ?_⟩
  cases r1 with
  | cons rv rn =>
    rename_i u1 us'
    cases rn with
    | cons rv2 rn2 =>
      rename_i u2 us2
      cases rn2
      show wpAny _ _ (call (.ref C) [u1, u2]) _ _ _
      have hlim := I1.nolimit
      obtain ⟨hG, mb, hB, hs⟩ := ns_of I1
      obtain ⟨hp, g, dr, tk, os⟩ := s1
      refine wpAny_call (K12X.made_gen (P := fun d => ∃ dx, d = some dx) (m := fun y => if y = "what" then some u2 else if y = "place" then some u1 else none) T.c T.iC T.tC I1.kIn hlim (by have := hr.dp; omega) (K12X.fits2 _ _)
        (fun A' s' x t0 R' kk hx hnx hd hq => K12X.init_wish T (I1.kIn.keeps kk) (hlim.keeps kk) (hG.keeps kk) (hB.keeps kk) gS hs htop hx hnx hd fun h' tk dx t1 ie => hq h' tk _ t1 ⟨dx, rfl⟩ ie) fun h' tk' e d hP M => ?_)
      obtain ⟨dx, rfl⟩ := hP
      exact mk_dict T.c.exC T.c.tyC I1 M (relO2 rv rv2) q1
theorem pmk_choice {e : Expr} {es : List Expr} {t : TA} {k : Nat} (T : K12X.OwnTxt X.K C fI "BadChoice.__init__" (inClass (K12.top 5) 0)) (B : K12X.BaseTxt X.K CP) (gP : X.mg "PurseError" = some (.ref CP)) (hno : PySem.W.findIn X.K (.ref C) "place" = some none)
    (gC : X.mg x = some (.ref C)) (hr : Room k X.A) (hg : Gl X x) (ha : PA X (e :: es) t) (hdb : (x == ("__debug__" : Str)) = false := by decide)
    (he : starEach (e :: es) X.env = (false, eval e X.env) :: starEach es X.env := by rfl) (hpl : (backTo pos (starEach es X.env)).any (·.1) = false := by rfl) :
    PMk X (.Call (.Name x p) (e :: es) [] pos) (tMk1 C t) := by
  intro pins s σ H Q I h
  refine wpAny_Call_Name_kw (ld_glob I hg gC ?_ hdb)
  refine PySem.W.callWith_K (h₀ := X.base) I.ok.mod.kin T.c.kC (thn (ha.run pos pins s σ H _ I h) fun us s1 hh => ?_) he hpl
  obtain ⟨vs, H1, I1, r1, v1, ev, q1⟩ := hh
  subst ev
  refine ⟨I1.kIn, ?_⟩
  cases r1 with
  | cons rv rn =>
    rename_i u1 us'
    cases rn
    show wpAny _ _ (call (.ref C) [u1]) _ _ _
    have hlim := I1.nolimit
    obtain ⟨hG, mb, hB, hs⟩ := ns_of I1
    obtain ⟨hp, g, dr, tk, os⟩ := s1
    refine wpAny_call (K12X.made_gen (P := fun d => ∃ dx, d = some dx) (m := fun y => if y = "place" then some u1 else none) T.c T.iC T.tC I1.kIn hlim (by have := hr.dp; omega) (K12X.fits1 _)
      (fun A' s' x t0 R' kk hx hnx hd hq => K12X.init_choice T B hno (I1.kIn.keeps kk) (hlim.keeps kk) (hG.keeps kk) gP hx hnx hd fun h' tk dx t1 ie => hq h' tk _ t1 ⟨dx, rfl⟩ ie) fun h' tk' e d hP M => ?_)
    obtain ⟨dx, rfl⟩ := hP
    exact mk_dict T.c.exC T.c.tyC I1 M (relO1 rv) q1
theorem pmk_lost {k : Nat} (T : K12X.OwnTxt X.K C fI "BadLost.__init__" (inClass (K12.top 6) 0)) (B : K12X.BaseTxt X.K CP) (gP : X.mg "PurseError" = some (.ref CP))
    (gC : X.mg x = some (.ref C)) (hr : Room k X.A) (hg : Gl X x) (hdb : (x == ("__debug__" : Str)) = false := by decide) :
    PMk X (.Call (.Name x p) [] [] pos) (fun _ H Q => Q (.ref C) none H) := by
  intro pins s σ H Q I h
  refine wpAny_Call_Name_kw (ld_glob I hg gC ?_ hdb)
  refine PySem.W.callWith_K0 I.kIn T.c.kC ?_
  have hlim := I.nolimit
  obtain ⟨hG, mb, hB, hs⟩ := ns_of I
  obtain ⟨hp, g, dr, tk, os⟩ := s
  refine wpAny_call (K12X.made_gen (P := fun d => d = none) (m := fun _ => none) T.c T.iC T.tC I.kIn hlim (by have := hr.dp; omega) (Nat.zero_le _)
    (fun A' s' x t0 R' kk hx hnx hd hq => K12X.init_lost T B (I.kIn.keeps kk) (hlim.keeps kk) (hG.keeps kk) gP hx hd fun h' tk t1 ie => hq h' tk _ t1 rfl ie) fun h' tk' e d hP M => ?_)
  subst hP
  exact mk_bare T.c.exC T.c.tyC I M h
/-- X(), X an own exception class without own __init__ -/
theorem pmk_own0 {bmB : List Value} {B newId initId : String} (F : ExcBaseFacts B newId initId bmB) (q : PySem.W.excIn X.K C bmB newId = true) (gC : X.mg x = some (.ref C))
    (kC : PySem.W.keepIn X.K (.ref C) = true) (r : Raises X (.ref C)) (hg : Gl X x) (hdb : (x == ("__debug__" : Str)) = false := by decide) :
    PMk X (.Call (.Name x p) [] [] pos) (fun _ H Q => Q (.ref C) none H) := by
  intro pins s σ H Q I h
  refine wpAny_Call_Name_kw (ld_glob I hg gC ?_ hdb)
  refine PySem.W.callWith_K0 I.kIn kC ?_
  show wpAny _ _ (call (.ref C) []) _ _ _
  obtain ⟨bm, N, nm, qn, bs, hdct, sn, sub, ab, col, dd, k0, k1, k2, k3, k5, mN, hC, hN, hni, T⟩ := exc_obj I.kIn q
  refine wpAny_call_exc_subT F T hC hN hni (fun h' e hm => ?_) (Nat.zero_le _)
  exact mk_of I hm r h (I.hok.gone hm.new)
end
end L2

set_option Elab.async false
set_option linter.all false
set_option maxRecDepth 100000
set_option maxHeartbeats 4000000
/-! try with several except clauses, some of which name the error and some of which do not. -/
namespace K12M
open PySem PySem.Spec PyProof.Rows L2
abbrev Ts := Addr → Value → Option Addr → TS
/-- the ends of a suite whose name, in slot i, goes -/
def gone (i : Nat) (D : Ends) : Ends := { nx := fun s H => D.nx (s.set i none) H, rt := D.rt, bk := fun s H => D.bk (s.set i none) H, ct := fun s H => D.ct (s.set i none) H }
/-- what the clauses wish of an error, clause after clause -/
def wMix (K : PySem.W.Frag) (Wout : WX) (D : Ends) : List (Value × Option Nat × Ts) → WX
  | [] => Wout
  | (c, none, ts) :: r => fun cls d σ H => ∃ b, PySem.W.exmOne K cls c = some b ∧ (b = true → ∀ a, H a = none → ts a cls d D σ H) ∧ (b = false → wMix K Wout D r cls d σ H)
  | (c, some i, ts) :: r => fun cls d σ H => ∃ b, PySem.W.exmOne K cls c = some b ∧ (b = true → ∀ a, H a = none → ts a cls d (gone i D) (σ.set i (some (.ref a))) H) ∧ (b = false → wMix K Wout D r cls d σ H)
def SuiteOk (X : Cx) (ss : List Stmt) (ts : Ts) : Prop := ∀ (a : Addr) (oe : Obj) (cls : Value) (d : Option Addr) (pn : List (Addr × Obj)), Zc cls d oe → (∃ vs, oe.data = .fields vs) → PSs (X.suite a ((a, oe) :: pn)) ss (ts a cls d)
inductive Clauses (X : Cx) : List ExceptHandler → List (Value × Option Nat × Ts) → Prop
  | done : Clauses X [] []
  | plain {x : Str} {c : Value} {ts : Ts} {b0 : Stmt} {ss : List Stmt} {p p' : Pos} {hs : List ExceptHandler} {l : List (Value × Option Nat × Ts)} (hc : Names X x c) (hx : SuiteOk X (b0 :: ss) ts) (r : Clauses X hs l) :
      Clauses X (.ExceptHandler (some (.Name x p)) none (b0 :: ss) p' :: hs) ((c, none, ts) :: l)
  | named {x n : Str} {i : Nat} {c : Value} {ts : Ts} {b0 : Stmt} {ss : List Stmt} {p p' : Pos} {hs : List ExceptHandler} {l : List (Value × Option Nat × Ts)} (hc : Names X x c) (hi : X.N[i]? = some n) (hl : X.env.kindOf n = some .local)
      (hx : SuiteOk X (b0 :: ss) ts) (r : Clauses X hs l) : Clauses X (.ExceptHandler (some (.Name x p)) (some n) (b0 :: ss) p' :: hs) ((c, some i, ts) :: l)
/-- an error that flew, noted on our ground B -/
structure Aloft (X : Cx) (pins : List (Addr × Obj)) (σ : L2.St) (H : Hp) (B : Heap) (sI : Shared) (a : Addr) (cls : Value) (d : Option Addr) (s : Shared) : Prop where
  inv : Inv X pins σ H sI
  ground : ∀ b o, sI.heap.get? b = some o → b ∉ frs X.stack → B.get? b = some o
  up : sI.heap.UpToSlots s.heap
  fly : HandSPX.FlyingZ B (X.env :: X.outer) a (Zc cls d) s.heap
  off : H a = none
  os : s.os = sI.os
  bare : AllBare s.gens
section
variable {X : Cx} {pins : List (Addr × Obj)} {σ : L2.St} {H : Hp} {B : Heap} {sI s : Shared} {a : Addr} {cls : Value} {d : Option Addr}
theorem Aloft.now (x : Aloft X pins σ H B sI a cls d s) : Inv X pins σ H s := x.inv.landed x.ground x.fly.1 x.up x.os x.bare
theorem Aloft.on (x : Aloft X pins σ H B sI a cls d s) {h' : Heap} (f : HandSPX.FlyingZ B (X.env :: X.outer) a (Zc cls d) h') (u : s.heap.UpToSlots h') : Aloft X pins σ H B sI a cls d { s with heap := h' } :=
  ⟨x.inv, x.ground, x.up.trans u, f, x.off, x.os, x.bare⟩
theorem Aloft.nofr (x : Aloft X pins σ H B sI a cls d s) : a ∉ frs (X.env :: X.outer) := fun m => by
  obtain ⟨o1, v1, g1, _, g3⟩ := x.fly.there
  obtain ⟨_, o2, g4, g5⟩ := x.fly.2.2.1.mem m
  rw [g1] at g4
  cases g4
  exact g5 _ g3
theorem Aloft.seen (x : Aloft X pins σ H B sI a cls d s) (hf : X.env.frame = some X.env.locals) : ∃ oe : Obj, s.heap.get? a = some oe ∧ Zc cls d oe ∧ (∃ vs, oe.data = .fields vs) ∧ Inv (X.suite a ((a, oe) :: (X.pn ++ pins))) [] σ H s := by
  obtain ⟨o1, v1, g1, g2, g3⟩ := x.fly.there
  have m := x.nofr
  refine ⟨o1, g1, g2, ⟨v1, g3⟩, x.now.suite g1 g3 x.off (fun z => m ?_) fun z => m ?_⟩
  · refine List.mem_filterMap.mpr ⟨X.env, List.mem_cons_self, ?_⟩
    rw [hf, z]
  · obtain ⟨e1, h1, h2⟩ := List.mem_filterMap.mp z
    exact List.mem_filterMap.mpr ⟨e1, List.mem_cons_of_mem _ h1, h2⟩
/-- the test of a clause -/
theorem Aloft.test (x : Aloft X pins σ H B sI a cls d s) (hf : X.env.frame = some X.env.locals) {n : Str} {c : Value} {p : Pos} (hc : Names X n c) {Q : Value → Shared → Prop} {E : Value → Shared → Prop} (q : Q c s) :
    wpAny (model X.prog X.w) (X.A.mark (some (.ref a))) (eval (.Name n p) X.env) Q E s := by
  obtain ⟨oe, _, _, _, S⟩ := x.seen hf
  rcases hc with ⟨g, db, hm⟩
  rcases hm with hm | ⟨h1, h2, h3⟩
  · exact ld_glob (X := X.suite a ((a, oe) :: (X.pn ++ pins))) S g hm q db
  · exact ld_blt (X := X.suite a ((a, oe) :: (X.pn ++ pins))) S g h1 h2 q h3 db
/-- no clause takes it: it flies on -/
theorem Aloft.pass (x : Aloft X pins σ H B sI a cls d s) (hs : X.stack = X.env :: X.outer) (hf : X.env.frame = some X.env.locals) {W : WX} (tk : Takes X W) (w : W cls d σ H) {Q : Flow → Shared → Prop} :
    wpAny (model X.prog X.w) X.A (handleBy (.ref a) X.env []) Q X.xe s := by
  refine wpAny_handleBy_nil ?_
  have fin : wpAny (model X.prog X.w) X.A (setFlight (.ref a) X.env.frame) (fun _ s4 => wpAny (model X.prog X.w) X.A (throw (.ref a) : Sem Flow) Q X.xe s4) X.xe s := by
    rw [hf]
    refine HandSPX.setFlight_upZ x.fly fun h4 y u => wpAny_throw (tk _ _ ?_)
    refine ⟨a, B, sI, pins, σ, H, cls, d, rfl, x.inv, x.ground, x.up.trans u, .inr (.inr ?_), x.off, x.os, x.bare, w⟩
    rw [hs]
    exact y
  obtain ⟨_, _, _, oe, vs, T, _, _, g1, _, g3, g4, _⟩ := id x.fly
  unfold PySem.passOn
  refine wpAny_bind (wpAny_field g1 g3 g4 ?_)
  rw [if_neg (by simp)]
  first
    | exact wpAny_bind (wpAny_pure (wpAny_bind fin))
    | exact wpAny_bind fin
/-- the clauses, one after the other -/
theorem Aloft.clauses (x : Aloft X pins σ H B sI a cls d s) (hs : X.stack = X.env :: X.outer) (hf : X.env.frame = some X.env.locals) (hN : X.N.Nodup) {W : WX} (tk : Takes X W) (D : Ends) {hds : List ExceptHandler} {l : List (Value × Option Nat × Ts)} (C : Clauses X hds l) (w : wMix X.K W D l cls d σ H) :
    wpAny (model X.prog X.w) X.A (handleBy (.ref a) X.env hds) (SP X pins D) X.xe s := by
  have ok := x.inv.ok
  induction C with
  | done => exact x.pass hs hf tk w
  | plain hc hx r ih =>
    obtain ⟨b, hb, yes, no⟩ := w
    refine wpAny_handleBy_cons (codeAny_handlers_test (x.test hf hc ?_)) (by intro z; cases z)
    obtain ⟨o1, g1, g2, _, _⟩ := x.seen hf
    have LT : PySem.W.Looks (model X.prog X.w) s.heap (typeOf (.ref a)) cls := fun A Q E t k q => wpAny_typeOf_ref (k _ _ g1) (by rw [g2.1]; exact q)
    refine (PySem.W.exm_one (M := model X.prog X.w) x.now.kIn LT hb).here ?_
    cases b with
    | false => exact ih (no rfl)
    | true =>
      refine codeAny_handlers_suite (HandSPX.lands_againZ x.fly fun h4 f4 u4 => ?_)
      obtain ⟨o2, _, z2, v2, S⟩ := (x.on f4 u4).seen hf
      refine wpAny_mono ((hx a o2 cls d (X.pn ++ pins) z2 v2).run [] _ _ H _ S (yes rfl a x.off)) (fun f s6 e => ?_) (fun _ _ z => False.elim z)
      cases f with
      | next => exact e.elim fun s1 e => e.elim fun H1 e => ⟨s1, H1, e.1.unsuite ok, e.2⟩
      | brk => exact e.elim fun s1 e => e.elim fun H1 e => ⟨s1, H1, e.1.unsuite ok, e.2⟩
      | cont => exact e.elim fun s1 e => e.elim fun H1 e => ⟨s1, H1, e.1.unsuite ok, e.2⟩
      | ret u => exact e.elim fun v e => e.elim fun s1 e => e.elim fun H1 e => ⟨v, s1, H1, e.1.unsuite ok, e.2.1, e.2.2⟩
  | @named n0 n i c ts b0 ss p p' hs' l' hc hi hl hx r ih =>
    obtain ⟨b, hb, yes, no⟩ := w
    refine wpAny_handleBy_cons (codeAny_handlers_test (x.test hf hc ?_)) (by intro z; cases z)
    obtain ⟨o1, g1, g2, _, _⟩ := x.seen hf
    have LT : PySem.W.Looks (model X.prog X.w) s.heap (typeOf (.ref a)) cls := fun A Q E t k q => wpAny_typeOf_ref (k _ _ g1) (by rw [g2.1]; exact q)
    refine (PySem.W.exm_one (M := model X.prog X.w) x.now.kIn LT hb).here ?_
    cases b with
    | false => exact ih (no rfl)
    | true =>
      refine codeAny_handlers_suite_as (HandSPX.lands_againZ x.fly fun h4 f4 u4 => ?_)
      obtain ⟨o2, _, z2, v2, S⟩ := (x.on f4 u4).seen hf
      refine store_ok (X := X.suite a ((a, o2) :: (X.pn ++ pins))) (v := .ref a) S hN hi (.inl hl) rfl (fun s5 S5 => ?_) (.inr hl)
      refine wpAny_mono ((hx a o2 cls d (X.pn ++ pins) z2 v2).run [] s5 _ H (gone i D) S5 (yes rfl a x.off)) (fun f s6 e => ?_) (fun _ _ z => False.elim z)
      have away : ∀ {s1 : L2.St} {H1 : Hp} {Q : Shared → Prop}, Inv (X.suite a ((a, o2) :: (X.pn ++ pins))) [] s1 H1 s6 → (∀ s7, Inv X pins (s1.set i none) H1 s7 → Q s7) →
          wpAny (model X.prog X.w) X.A (do bindName X.env n .none; unbindBehindTheSuite X.env n p') (fun _ s7 => Q s7) X.xe s6 := fun y k => gone_ok (y.unsuite ok) hN hi hl k
      cases f with
      | next =>
        obtain ⟨s1, H1, y, q⟩ := e
        exact away y fun s7 J => ⟨_, _, J, q⟩
      | brk =>
        obtain ⟨s1, H1, y, q⟩ := e
        exact away y fun s7 J => ⟨_, _, J, q⟩
      | cont =>
        obtain ⟨s1, H1, y, q⟩ := e
        exact away y fun s7 J => ⟨_, _, J, q⟩
      | ret u =>
        obtain ⟨v, s1, H1, y, rv, q⟩ := e
        exact away y fun s7 J => ⟨_, _, _, J, rv, q⟩
end
section
variable {X : Cx} {body : List Stmt} {h0 : ExceptHandler} {hds : List ExceptHandler} {l : List (Value × Option Nat × Ts)} {pos : Pos} {tb : WX → TS} {Wout : WX}
theorem ps_try_mix (hs : X.stack = X.env :: X.outer) (hf : X.env.frame = some X.env.locals) (hN : X.N.Nodup) (tk : Takes X Wout) (C : Clauses X (h0 :: hds) l)
    (hb : ∀ (W : WX) (pn : List (Addr × Obj)) (xe : Value → Shared → Prop), Takes (X.tr pn xe) W → PassesOwn (model X.prog X.w) X.A X.env xe → PSs (X.tr pn xe) body (tb W)) :
    PS X (.Try body (h0 :: hds) [] [] pos) (fun D σ H => tb (wMix X.K Wout D l) D σ H) := by
  refine ⟨fun pins s σ H D I h => ?_⟩
  have ok := I.ok
  refine wpAny_Try_except ?_
  refine wpAny_mono ((hb (wMix X.K Wout D l) (X.pn ++ pins) (fun e s1 => wpAny (model X.prog X.w) X.A (noteFrame e X.env) (fun _ s2 => wpAny (model X.prog X.w) X.A (setFlight e none) (fun _ s3 =>
    wpAny (model X.prog X.w) X.A (handleBy e X.env (h0 :: hds)) (SP X pins D) X.xe s3) X.xe s2) X.xe s1) (fun u s1 y => ?_) PassesOwn.looking).run [] s σ H D (I.toTry _) h) (fun f s1 e => ?_) (fun e s1 z => z)
  · obtain ⟨a, B, sI, pins1, σ1, H1, cls, d, rfl, J, nb, up, sky, na, os, ag, w⟩ := y
    show wpAny (model X.prog X.w) X.A (noteFrame (.ref a) X.env) _ _ _
    have sky1 : Sky B (X.env :: X.outer) a (Zc cls d) X.env.locals s1.heap := by
      rw [← hs]
      exact sky
    refine Sky.land Zc.steady (by rw [ok.frames, hs]) hf sky1 fun h3 f3 u3 => ?_
    have x : Aloft X pins σ1 H1 B sI a cls d { s1 with heap := h3 } := ⟨J.ofTry ok, nb, up.trans u3, f3, na, os, ag⟩
    exact x.clauses hs hf hN tk D C w
  · cases f with
    | next =>
      obtain ⟨σ1, H1, J, q⟩ := e
      exact wpAny_execs_nil ⟨σ1, H1, J.ofTry ok, q⟩
    | brk => exact e.elim fun s1 e => e.elim fun H1 e => ⟨s1, H1, e.1.ofTry ok, e.2⟩
    | cont => exact e.elim fun s1 e => e.elim fun H1 e => ⟨s1, H1, e.1.ofTry ok, e.2⟩
    | ret u => exact e.elim fun v e => e.elim fun s1 e => e.elim fun H1 e => ⟨v, s1, H1, e.1.ofTry ok, e.2.1, e.2.2⟩
end
end K12M

set_option Elab.async false
set_option linter.all false
set_option maxRecDepth 100000
set_option maxHeartbeats 4000000
/-! What the top leaves, as the walks want it; a def's promise by its name; the hand. -/
namespace K12
open PySem PySem.Spec PyProof.Rows L2
def freeNames : List Str := ["isinstance", "int", "bool", "list", "tuple", "len", "enumerate", "sorted", "sum", "max", "min", "abs", "range", "zip", "repr", "super", "ValueError"]
def placesA : List (Str × Nat) := [("is_whole", 12), ("is_sequence", 13), ("check_pool", 14), ("checked_amounts", 17), ("check_wish", 18), ("checked_couple", 20), ("may_take", 21), ("hand_out", 22), ("lacks_room", 25), ("unserved_fault", 26), ("_law_hand", 29), ("_law_stirred", 30), ("_law_take", 31), ("_law_whole", 32), ("_law_up", 33), ("_law_people", 34)]
def placesB : List (Str × Nat) := [("_law_room", 35), ("_law_rising", 36), ("_law_spoilt", 37), ("_law_small", 38), ("_law_great", 39), ("_law_pool", 40), ("_law_given", 41), ("_law_fails", 42), ("_law_parts", 43), ("_law_hard_wish", 44), ("_law_drawn_split", 45), ("_law_drawn_wish", 46), ("_law_any_wish", 47), ("_law_listed", 48), ("_law_numbers", 49), ("_law_is_split", 50)]
def placesC : List (Str × Nat) := [("_law_able", 51), ("_law_due", 52), ("_law_run", 53), ("_law_wrong_choice", 54), ("_law_raised_at", 55), ("_law_wrong_pool", 56), ("_law_wrong_wish", 57), ("_law_door", 58), ("_law_doors", 59), ("_law_same", 60), ("_law_played", 61), ("_law_all_picks", 62), ("_law_longer", 63), ("_law_one", 64), ("law", 65)]
def places : List (Str × Nat) := placesA ++ (placesB ++ placesC)
structure Txt (K : PySem.W.Frag) (mg : Str → Option Value) : Prop where
  free : ∀ x : Str, x ∈ freeNames → mg x = none
  dfn : ∀ d : Str × Nat, d ∈ places → ∃ f fd, mg d.1 = some (.ref f) ∧ FunD K d.1 d.1 (defArgs (top d.2)) (defBody (top d.2)) (defScope (top d.2)) [] [] f fd
  people : ∃ f fd, mg "check_people" = some (.ref f) ∧ FunD K "check_people" "check_people" (defArgs (top 15)) (defBody (top 15)) (defScope (top 15)) [.int 1] [] f fd
  mostC : ∃ t, mg "MOST_COINS" = some (.int 12 t)
  mostW : ∃ t, mg "MOST_WORTH" = some (.int 1000000000 t)
  mostP : ∃ t, mg "MOST_PEOPLE" = some (.int 5 t)
  mostA : ∃ t, mg "MOST_AMOUNT" = some (.int 12000000000 t)
/-- the module's name x is a def that keeps the promise sp -/
def Has (P : Program) (w : World) (K : PySem.W.Frag) (mg : Str → Option Value) (base : Heap) (CX : CXT) (k : Nat) (x : Str) (ps : List Str) (sp : Sp) : Prop :=
  ∃ f fd, mg x = some (.ref f) ∧ PySem.W.keepIn K (.ref f) = true ∧ Binds K fd ps [] ∧ FnOk P w K mg base CX k f fd ps sp
section
variable {X : Cx} {CX : CXT} {x : Str} {ps : List Str} {sp : Sp} {i j k : Nat} {p pos : Pos} {e : Expr} {es : List Expr} {t : TA}
theorem pe_has (h : Has X.prog X.w X.K X.mg X.base CX0 k x ps sp) (hr : Room j X.A) (hk : k ≤ j) (ha : PA X (e :: es) t) (hg : Gl X x := by rfl) (hdb : (x == ("__debug__" : Str)) = false := by decide)
    (he : starEach (e :: es) X.env = (false, eval e X.env) :: starEach es X.env := by rfl) (hpl : (backTo pos (starEach es X.env)).any (·.1) = false := by rfl) :
    PE X (.Call (.Name x p) (e :: es) [] pos) (tCall sp [] E0 t) := by
  obtain ⟨f, fd, g, kp, b, F⟩ := h
  exact pe_call F (hr.mono hk) hg g kp b .nil pass0 ha hdb he hpl
theorem pe_hasS {W : WX} (h : Has X.prog X.w X.K X.mg X.base (L2.CX X.prog X.w) k x ps sp) (hr : Room j X.A) (hk : k ≤ j) (tk : Takes X W) (ha : PA X (e :: es) t) (hg : Gl X x := by rfl) (hdb : (x == ("__debug__" : Str)) = false := by decide)
    (he : starEach (e :: es) X.env = (false, eval e X.env) :: starEach es X.env := by rfl) (hpl : (backTo pos (starEach es X.env)).any (·.1) = false := by rfl) :
    PE X (.Call (.Name x p) (e :: es) [] pos) (tCallS sp (WE W) t) := by
  obtain ⟨f, fd, g, kp, b, F⟩ := h
  exact pe_callS F (hr.mono hk) hg g kp b (fun σ => passAt tk σ) ha hdb he hpl
theorem pe_cst {n : Int} (h : ∃ t, X.mg x = some (.int n t)) (hg : Gl X x := by rfl) (hd : (x == ("__debug__" : Str)) = false := by decide) : PE X (.Name x pos) (tC (.int n)) := by
  obtain ⟨t, h⟩ := h
  exact pe_glob hg h ⟨t, rfl⟩ hd
theorem Has.mono {P : Program} {w : World} {K : PySem.W.Frag} {mg : Str → Option Value} {base : Heap} (h : Has P w K mg base CX j x ps sp) (hk : j ≤ k) : Has P w K mg base CX k x ps sp := by
  obtain ⟨f, fd, g, kp, b, F⟩ := h
  exact ⟨f, fd, g, kp, b, F.mono hk⟩
theorem Has.imp {P : Program} {w : World} {K : PySem.W.Frag} {mg : Str → Option Value} {base : Heap} {sp' : Sp} (h : Has P w K mg base CX k x ps sp) (hi : ∀ vs H Q E, sp' vs H Q E → sp vs H Q E) : Has P w K mg base CX k x ps sp' := by
  obtain ⟨f, fd, g, kp, b, F⟩ := h
  exact ⟨f, fd, g, kp, b, F.imp hi⟩
end
/-! ### the hand -/
/-- where the hand and its cells stand -/
abbrev Hd := Addr × Addr
/-- at hd the hand: the cells, the next one's place, what is left, the mixed sum -/
def St (hd : Hd) (H : Hp) : Prop := ∃ (cells : List Int) (pos left mixed : Int), H hd.1 = some (.lst [.ref hd.2, .int pos, .int left, .int mixed]) ∧ H hd.2 = some (.lst (cells.map V.int)) ∧ hd.2 ≠ hd.1 ∧ (∀ c ∈ cells, 0 ≤ c) ∧ 0 ≤ pos ∧ pos ≤ 100000000 ∧ cells.length ≤ 100000000 ∧ 0 ≤ left ∧ 0 ≤ mixed ∧ mixed < 2147483579
/-- all but the hand is as it was -/
def Kh (hd : Addr) (H H' : Hp) : Prop := ∀ b o, b ≠ hd → H b = some o → H' b = some o
theorem Kh.refl (hd : Addr) (H : Hp) : Kh hd H H := fun _ _ _ e => e
theorem Kh.trans {hd : Addr} {H H1 H2 : Hp} (a : Kh hd H H1) (b : Kh hd H1 H2) : Kh hd H H2 := fun c o n e => b c o n (a c o n e)
theorem Kh.of {hd : Addr} {H H' : Hp} (s : Same H H') : Kh hd H H' := fun b o _ e => s b o e
theorem Kh.new {hd : Addr} {H : Hp} {p : Addr} {o : HO} (n : H p = none) : Kh hd H (upd H p o) := fun b u _ e => by
  rw [upd_ne (ne_of_none e n)]
  exact e
theorem Kh.hand {hd : Addr} {H : Hp} {o : HO} : Kh hd H (upd H hd o) := fun b u n e => by
  rw [upd_ne n]
  exact e
theorem St.there {hd : Hd} {H : Hp} (s : St hd H) : (∃ o, H hd.1 = some o) ∧ ∃ o, H hd.2 = some o := by
  obtain ⟨_, _, _, _, h, h2, _⟩ := s
  exact ⟨⟨_, h⟩, _, h2⟩
theorem St.ne {hd : Hd} {p : Addr} {H : Hp} (s : St hd H) (n : H p = none) : p ≠ hd.1 := fun z => by
  obtain ⟨o, h⟩ := s.there.1
  rw [← z, n] at h
  cases h
theorem St.nc {hd : Hd} {p : Addr} {H : Hp} (s : St hd H) (n : H p = none) : p ≠ hd.2 := fun z => by
  obtain ⟨o, h⟩ := s.there.2
  rw [← z, n] at h
  cases h
/-- another object is written -/
theorem St.mut {hd : Hd} {p : Addr} {H : Hp} {o : HO} (s : St hd H) (n1 : p ≠ hd.1) (n2 : p ≠ hd.2) : St hd (upd H p o) := by
  obtain ⟨cells, pos, left, mixed, h1, h2, r⟩ := s
  exact ⟨cells, pos, left, mixed, by rw [upd_ne (Ne.symm n1)]; exact h1, by rw [upd_ne (Ne.symm n2)]; exact h2, r⟩
theorem St.new {hd : Hd} {p : Addr} {H : Hp} {o : HO} (s : St hd H) (n : H p = none) : St hd (upd H p o) := s.mut (s.ne n) (s.nc n)
/-- more objects -/
theorem St.same {hd : Hd} {H H' : Hp} (s : St hd H) (k : Same H H') : St hd H' := by
  obtain ⟨cells, pos, left, mixed, h1, h2, r⟩ := s
  exact ⟨cells, pos, left, mixed, k _ _ h1, k _ _ h2, r⟩
theorem Kh.mut {hd : Hd} {H H1 : Hp} {p : Addr} {o : HO} (k : Kh hd.1 H H1) (n : H p = none) : Kh hd.1 H (upd H1 p o) := fun b u nb e => by
  rw [upd_ne (ne_of_none e n)]
  exact k b u nb e
/-- an object of another kind than the hand's is not the hand -/
theorem St.ints {hd : Hd} {a : Addr} {H : Hp} {ns : List Int} (s : St hd H) (h : H a = some (.lst (ns.map V.int))) : a ≠ hd.1 := fun z => by
  obtain ⟨cells, pos, left, mixed, h1, _⟩ := s
  rw [← z, h] at h1
  have e := Option.some.inj h1
  injection e with e
  cases ns with
  | nil => cases e
  | cons n r => cases e
theorem St.tupl {hd : Hd} {a : Addr} {H : Hp} {xs : List V} (s : St hd H) (h : H a = some (.tup xs)) : a ≠ hd.1 := fun z => by
  obtain ⟨cells, pos, left, mixed, h1, _⟩ := s
  rw [← z, h] at h1
  cases Option.some.inj h1
theorem St.refs {hd : Hd} {a : Addr} {H : Hp} {ps : List Addr} (s : St hd H) (h : H a = some (.lst (ps.map V.ref))) : a ≠ hd.1 := fun z => by
  obtain ⟨cells, pos, left, mixed, h1, _⟩ := s
  rw [← z, h] at h1
  have e := Option.some.inj h1
  injection e with e
  cases ps with
  | nil => cases e
  | cons p r =>
    cases r with
    | nil => cases e
    | cons q r => cases e
/-- a tracked list of ints, where it stands in the heap itself -/
theorem Kh.lst {hd : Hd} {a : Addr} {H H' : Hp} {ns : List Int} (k : Kh hd.1 H H') (s : St hd H) (h : H a = some (.lst (ns.map V.int))) : H' a = some (.lst (ns.map V.int)) := k a _ (s.ints h) h
theorem Kh.tup {hd : Hd} {a : Addr} {H H' : Hp} {xs : List V} (k : Kh hd.1 H H') (s : St hd H) (h : H a = some (.tup xs)) : H' a = some (.tup xs) := k a _ (s.tupl h) h
theorem Kh.none {hd : Hd} {a : Addr} {H H' : Hp} (k : Kh hd.1 H H') (s : St hd H') (n : H' a = none) : H a = none := by
  cases e : H a with
  | none => rfl
  | some o =>
    have z := k a o (s.ne n) e
    rw [n] at z
    cases z
end K12

set_option Elab.async false
set_option linter.all false
set_option maxRecDepth 100000
set_option maxHeartbeats 1000000
/-! Handing out coins, in plain Lean: no program in sight. -/
namespace Hand
abbrev Call := Int × List Int
inductive HEnd where
  | split (ps : List (List Int))
  | stuck (c : Int) (ls : List Int)
  | bad (t : Nat)
  | lost
def after (o : Option (Option Nat)) (t : Nat) (cs : List Call) (x : Call) (k : Nat → HEnd × List Call) : HEnd × List Call := match o with
  | none => (.lost, cs ++ [x])
  | some none => (.bad t, cs ++ [x])
  | some (some j) => k j
/-- the coins one after the other (the greatest first); ans: none: it raises; some none: nobody who can; some (some j): the person j -/
def ho (ans : List Call → Call → Option (Option Nat)) : Nat → List Int → List Int → List (List Int) → List Call → HEnd × List Call
  | _, [], _, ps, cs => (.split ps, cs)
  | t, c :: r, ls, ps, cs => if (ls.all fun l => decide (l < c)) = true then (.stuck c ls, cs) else
    after (ans cs (c, ls)) t cs (c, ls) fun j => ho ans (t + 1) r (ls.set j (ls.getD j 0 - c)) (ps.set j (c :: ps.getD j [])) (cs ++ [(c, ls)])
def able (c : Int) (ls : List Int) : List Nat := (List.range ls.length).filter fun j => decide (c ≤ ls.getD j 0)
theorem mem_able {c : Int} {ls : List Int} {j : Nat} : j ∈ able c ls ↔ j < ls.length ∧ c ≤ ls.getD j 0 := by
  unfold able
  rw [List.mem_filter, List.mem_range, decide_eq_true_iff]
theorem getD_lt {α : Type} {l : List α} {j : Nat} (h : j < l.length) (d : α) : l.getD j d = l[j] := by
  rw [List.getD_eq_getElem?_getD, List.getElem?_eq_getElem h] <;> rfl
theorem able_nil {c : Int} {ls : List Int} : able c ls = [] ↔ (ls.all fun l => decide (l < c)) = true := by
  constructor
  · intro h
    rw [List.all_eq_true]
    intro l hl
    obtain ⟨j, hj, e⟩ := List.mem_iff_getElem.mp hl
    have z : j ∉ able c ls := by rw [h]; simp
    rw [mem_able, getD_lt hj] at z
    exact decide_eq_true (by rw [← e]; omega)
  · intro h
    rw [List.all_eq_true] at h
    apply List.eq_nil_iff_forall_not_mem.mpr
    intro j hj
    obtain ⟨h1, h2⟩ := mem_able.mp hj
    rw [getD_lt h1] at h2
    have z := of_decide_eq_true (h _ (List.getElem_mem h1))
    omega
def pick (ps : List Int) (t : Nat) (c : Int) (ls : List Int) : Nat := (able c ls).getD ((ps.getD t 0) % ((able c ls).length : Int)).toNat 0
theorem mod_lt {n : Int} {k : Nat} (h : 0 < k) : (n % (k : Int)).toNat < k := by
  have h1 := Int.emod_nonneg n (show (k : Int) ≠ 0 by omega)
  have h2 := Int.emod_lt_of_pos n (show (0 : Int) < k by omega)
  omega
theorem pick_able {ps : List Int} {t : Nat} {c : Int} {ls : List Int} (h : able c ls ≠ []) : pick ps t c ls ∈ able c ls := by
  unfold pick
  have hl : 0 < (able c ls).length := by
    cases e : able c ls with
    | nil => exact absurd e h
    | cons a r => exact Nat.succ_pos _
  rw [getD_lt (mod_lt hl)]
  exact List.getElem_mem _
/-- the answers by the picks; at the call numbered bad nobody who can -/
def ansD (picks : List Int) (bad : Int) : List Call → Call → Option (Option Nat) := fun cs x => if (cs.length : Int) = bad then some none else some (some (pick picks cs.length x.1 x.2))
/-- the program's or the law's machine from the start -/
def play (ans : List Call → Call → Option (Option Nat)) (coins wish : List Int) : HEnd × List Call := ho ans 0 coins.reverse wish (wish.map fun _ => []) []
def Valid (ans : List Call → Call → Option (Option Nat)) : Prop := ∀ cs c ls, (ls.all fun l => decide (l < c)) = false → ∃ j, ans cs (c, ls) = some (some j) ∧ j < ls.length ∧ c ≤ ls.getD j 0
theorem valid_picks (picks : List Int) : Valid (ansD picks (-1)) := by
  intro cs c ls h
  refine ⟨pick picks cs.length c ls, ?_, mem_able.mp (pick_able ?_)⟩
  · unfold ansD
    rw [if_neg (by omega)]
  · intro z
    rw [able_nil.mp z] at h
    cases h
/-! ### the calls -/
theorem calls_ext (ans : List Call → Call → Option (Option Nat)) : ∀ (r : List Int) (t : Nat) (ls : List Int) (ps : List (List Int)) (cs : List Call), ∃ more, (ho ans t r ls ps cs).2 = cs ++ more ∧ more.length ≤ r.length
  | [], t, ls, ps, cs => ⟨[], by simp [ho]⟩
  | c :: r, t, ls, ps, cs => by
    unfold ho
    split
    · exact ⟨[], by simp⟩
    · cases h : ans cs (c, ls) with
      | none => exact ⟨[(c, ls)], rfl, by simp⟩
      | some o =>
        cases o with
        | none => exact ⟨[(c, ls)], rfl, by simp⟩
        | some j =>
          obtain ⟨more, e, hl⟩ := calls_ext ans r (t + 1) (ls.set j (ls.getD j 0 - c)) (ps.set j (c :: ps.getD j [])) (cs ++ [(c, ls)])
          exact ⟨(c, ls) :: more, (e.trans (List.append_assoc _ _ _) : _), by simp; omega⟩
/-- another answer at the call numbered b ends there -/
theorem ho_cut (a1 a2 : List Call → Call → Option (Option Nat)) (b : Nat) (x : Call) (o : Option (Option Nat)) (en : HEnd) (ho' : (o = none ∧ en = .lost) ∨ (o = some none ∧ en = .bad b)) (same : ∀ cs y, cs.length < b → a2 cs y = a1 cs y) (cut : ∀ cs : List Call, cs.length = b → a2 cs x = o) :
    ∀ (r : List Int) (t : Nat) (ls : List Int) (ps : List (List Int)) (cs : List Call), cs.length = t → t ≤ b → (ho a1 t r ls ps cs).2[b]? = some x → ho a2 t r ls ps cs = (en, (ho a1 t r ls ps cs).2.take (b + 1))
  | [], t, ls, ps, cs, h1, h2, h3 => by
    unfold ho at h3
    have z := (List.getElem?_eq_some_iff.mp h3).1
    have z2 : b < cs.length := z
    omega
  | c :: r, t, ls, ps, cs, h1, h2, h3 => by
    unfold ho at h3 ⊢
    cases hall : (ls.all fun l => decide (l < c)) with
    | true =>
      rw [hall, if_pos rfl] at h3
      have z := (List.getElem?_eq_some_iff.mp h3).1
      have z2 : b < cs.length := z
      omega
    | false =>
      rw [hall, if_neg (by decide)] at h3
      rw [if_neg (by decide), if_neg (by decide)]
      by_cases hb : t = b
      · -- here
        have ex : (c, ls) = x := by
          have q : ∀ o1, ∃ more, (after o1 t cs (c, ls) fun j => ho a1 (t + 1) r (ls.set j (ls.getD j 0 - c)) (ps.set j (c :: ps.getD j [])) (cs ++ [(c, ls)])).2 = (cs ++ [(c, ls)]) ++ more := by
            intro o1
            cases o1 with
            | none => exact ⟨[], (List.append_nil (cs ++ [(c, ls)])).symm⟩
            | some o1 =>
              cases o1 with
              | none => exact ⟨[], (List.append_nil (cs ++ [(c, ls)])).symm⟩
              | some j =>
                obtain ⟨more, e, _⟩ := calls_ext a1 r (t + 1) (ls.set j (ls.getD j 0 - c)) (ps.set j (c :: ps.getD j [])) (cs ++ [(c, ls)])
                exact ⟨more, e⟩
          obtain ⟨more, e⟩ := q (a1 cs (c, ls))
          rw [e, List.append_assoc, List.getElem?_append_right (by omega), h1, hb] at h3
          simp at h3
          exact h3
        have q : ∀ o1, (after o1 t cs (c, ls) fun j => ho a1 (t + 1) r (ls.set j (ls.getD j 0 - c)) (ps.set j (c :: ps.getD j [])) (cs ++ [(c, ls)])).2.take (b + 1) = cs ++ [(c, ls)] := by
          intro o1
          have tk : ∀ more : List Call, ((cs ++ [(c, ls)]) ++ more).take (b + 1) = cs ++ [(c, ls)] := fun more => by
            rw [List.take_append_of_le_length (by simp; omega), List.take_of_length_le (by simp; omega)]
          have tk0 : (cs ++ [(c, ls)]).take (b + 1) = cs ++ [(c, ls)] := List.take_of_length_le (by simp; omega)
          cases o1 with
          | none => exact tk0
          | some o1 =>
            cases o1 with
            | none => exact tk0
            | some j =>
              obtain ⟨more, e, _⟩ := calls_ext a1 r (t + 1) (ls.set j (ls.getD j 0 - c)) (ps.set j (c :: ps.getD j [])) (cs ++ [(c, ls)])
              show (ho a1 (t + 1) r (ls.set j (ls.getD j 0 - c)) (ps.set j (c :: ps.getD j [])) (cs ++ [(c, ls)])).2.take (b + 1) = _
              rw [e]
              exact tk more
        rw [q (a1 cs (c, ls)), ex, cut cs (by omega)]
        rcases ho' with ⟨rfl, rfl⟩ | ⟨rfl, rfl⟩
        · rfl
        · rw [← hb]
          rfl
      · rw [same cs (c, ls) (by omega)]
        cases h : a1 cs (c, ls) with
        | none =>
          rw [h] at h3
          have z := (List.getElem?_eq_some_iff.mp h3).1
          have z2 : b < (cs ++ [(c, ls)]).length := z
          simp at z2
          omega
        | some o1 =>
          rw [h] at h3
          cases o1 with
          | none =>
            have z := (List.getElem?_eq_some_iff.mp h3).1
            have z2 : b < (cs ++ [(c, ls)]).length := z
            simp at z2
            omega
          | some j => exact ho_cut a1 a2 b x o en ho' same cut r (t + 1) (ls.set j (ls.getD j 0 - c)) (ps.set j (c :: ps.getD j [])) (cs ++ [(c, ls)]) (by simp; omega) (by omega) h3
/-- two answers that agree where the call is asked -/
theorem ho_congr (a1 a2 : List Call → Call → Option (Option Nat)) (n : Nat) : ∀ (r : List Int) (t : Nat) (ls : List Int) (ps : List (List Int)) (cs : List Call), cs.length + r.length ≤ n → (∀ cs c ls, cs.length < n → (ls.all fun l => decide (l < c)) = false → a1 cs (c, ls) = a2 cs (c, ls)) → ho a1 t r ls ps cs = ho a2 t r ls ps cs
  | [], t, ls, ps, cs, _, _ => rfl
  | c :: r, t, ls, ps, cs, hn, h => by
    unfold ho
    cases hall : (ls.all fun l => decide (l < c)) with
    | true => rfl
    | false =>
      rw [if_neg (by decide), if_neg (by decide), h cs c ls (by simp at hn; omega) hall]
      cases a2 cs (c, ls) with
      | none => rfl
      | some o =>
        cases o with
        | none => rfl
        | some j => exact ho_congr a1 a2 n r (t + 1) _ _ _ (by simp at hn ⊢; omega) h
end Hand

set_option Elab.async false
set_option linter.all false
set_option maxRecDepth 100000
set_option maxHeartbeats 1000000
/-! What handing out comes to: a split, or stuck. -/
namespace Hand
theorem sum_set : ∀ (l : List Int) (j : Nat) (v : Int), j < l.length → (l.set j v).sum = l.sum - l.getD j 0 + v
  | [], _, _, h => by simp at h
  | a :: l, 0, v, _ => by simp only [List.set_cons_zero, List.sum_cons, List.getD_cons_zero]; omega
  | a :: l, j + 1, v, h => by
    have ih := sum_set l j v (by simpa using h)
    simp only [List.set_cons_succ, List.sum_cons, List.getD_cons_succ, ih]
    omega
theorem flat_set : ∀ (ps : List (List Int)) (j : Nat) (c : Int), j < ps.length → (ps.set j (c :: ps.getD j [])).flatten.Perm (c :: ps.flatten)
  | [], _, _, h => by simp at h
  | p :: ps, 0, c, _ => by simp
  | p :: ps, j + 1, c, h => by
    have ih := flat_set ps j c (by simpa using h)
    simp only [List.set_cons_succ, List.flatten_cons, List.getD_cons_succ]
    exact (ih.append_left p).trans List.perm_middle
theorem getD_set {α : Type} (l : List α) (j i : Nat) (v d : α) (h : j < l.length) : (l.set j v).getD i d = if i = j then v else l.getD i d := by
  simp only [List.getD_eq_getElem?_getD, List.getElem?_set]
  by_cases e : i = j
  · subst e
    simp [h]
  · simp [e, Ne.symm e]
theorem mem_set {α : Type} {l : List α} {j : Nat} {v x : α} (h : x ∈ l.set j v) : x = v ∨ x ∈ l := by
  rcases List.mem_or_eq_of_mem_set h with h | h
  · exact .inr h
  · exact .inl h
/-- on the way: what is wanted still, what is in the purses, what is left -/
structure Go (W coins r ls : List Int) (ps : List (List Int)) : Prop where
  len : ls.length = W.length
  plen : ps.length = W.length
  nn : ∀ l ∈ ls, 0 ≤ l
  bal : ∀ j, j < W.length → ls.getD j 0 + (ps.getD j []).sum = W.getD j 0
  perm : (ps.flatten ++ r).Perm coins
  sum : ls.sum = r.sum
  asc : ∀ p ∈ ps, p.Pairwise (· ≤ ·)
  big : ∀ p ∈ ps, ∀ x ∈ p, ∀ c ∈ r, c ≤ x
  desc : r.Pairwise (· ≥ ·)
theorem getD_mem {ps : List (List Int)} {j : Nat} (h : j < ps.length) : ps.getD j [] ∈ ps := by
  rw [getD_lt h]
  exact List.getElem_mem h
theorem Go.step {W coins r ls : List Int} {ps : List (List Int)} {c : Int} {j : Nat} (g : Go W coins (c :: r) ls ps) (hj : j < ls.length) (hc : c ≤ ls.getD j 0) : Go W coins r (ls.set j (ls.getD j 0 - c)) (ps.set j (c :: ps.getD j [])) := by
  have hjp : j < ps.length := by rw [g.plen, ← g.len]; exact hj
  have d := List.pairwise_cons.mp g.desc
  refine ⟨by rw [List.length_set]; exact g.len, by rw [List.length_set]; exact g.plen, ?_, ?_, ?_, ?_, ?_, ?_, d.2⟩
  · intro l hl
    rcases mem_set hl with e | e
    · rw [e]; omega
    · exact g.nn l e
  · intro i hi
    have b := g.bal i hi
    rw [getD_set _ _ _ _ _ hj, getD_set _ _ _ _ _ hjp]
    by_cases e : i = j
    · subst e
      rw [if_pos rfl, if_pos rfl, List.sum_cons]
      omega
    · rw [if_neg e, if_neg e]
      exact b
  · refine ((flat_set ps j c hjp).append_right r).trans ?_
    refine List.Perm.trans ?_ g.perm
    exact List.perm_middle.symm
  · have z := g.sum
    rw [List.sum_cons] at z
    rw [sum_set _ _ _ hj]
    omega
  · intro p hp
    rcases mem_set hp with e | e
    · rw [e]
      exact List.pairwise_cons.mpr ⟨fun x hx => g.big _ (getD_mem hjp) x hx c (by simp), g.asc _ (getD_mem hjp)⟩
    · exact g.asc p e
  · intro p hp x hx k hk
    rcases mem_set hp with e | e
    · rw [e] at hx
      rcases List.mem_cons.mp hx with e | e
      · rw [e]
        exact d.1 k hk
      · exact g.big _ (getD_mem hjp) x e k (by simp [hk])
    · exact g.big p e x hx k (by simp [hk])
theorem nn_sum0 : ∀ (l : List Int), (∀ x ∈ l, 0 ≤ x) → 0 ≤ l.sum
  | [], _ => by simp
  | a :: l, h => by
    have i := nn_sum0 l fun x hx => h x (by simp [hx])
    have z := h a (by simp)
    rw [List.sum_cons]
    omega
theorem le_sum : ∀ (l : List Int), (∀ x ∈ l, 0 ≤ x) → ∀ x ∈ l, x ≤ l.sum
  | [], _, x, hx => by simp at hx
  | a :: l, h, x, hx => by
    have i := nn_sum0 l fun x hx => h x (by simp [hx])
    have z := h a (by simp)
    rw [List.sum_cons]
    rcases List.mem_cons.mp hx with e | e
    · omega
    · have := le_sum l (fun x hx => h x (by simp [hx])) x e
      omega
/-- a split of the coins with these worths -/
structure Split (W coins : List Int) (ps : List (List Int)) : Prop where
  len : ps.length = W.length
  asc : ∀ p ∈ ps, p.Pairwise (· ≤ ·)
  worth : ∀ j, j < W.length → (ps.getD j []).sum = W.getD j 0
  perm : ps.flatten.Perm coins
theorem Go.done {W coins ls : List Int} {ps : List (List Int)} (g : Go W coins [] ls ps) : Split W coins ps := by
  refine ⟨g.plen, g.asc, fun j hj => ?_, by simpa using g.perm⟩
  have b := g.bal j hj
  have hl : j < ls.length := by rw [g.len]; exact hj
  have h1 := g.nn (ls.getD j 0) (by rw [getD_lt hl]; exact List.getElem_mem hl)
  have h2 := le_sum ls g.nn (ls.getD j 0) (by rw [getD_lt hl]; exact List.getElem_mem hl)
  have h3 := g.sum
  simp at h3
  omega
/-- whatever is answered: if it ends with a split it is a good one -/
theorem ho_split {ans : List Call → Call → Option (Option Nat)} {W coins : List Int} (V : ∀ cs c ls j, (ls.all fun l => decide (l < c)) = false → ans cs (c, ls) = some (some j) → j < ls.length ∧ c ≤ ls.getD j 0) :
    ∀ (r : List Int) (t : Nat) (ls : List Int) (ps : List (List Int)) (cs : List Call) (ps' : List (List Int)), Go W coins r ls ps → (ho ans t r ls ps cs).1 = .split ps' → Split W coins ps'
  | [], t, ls, ps, cs, ps', g, h => by
    have e : HEnd.split ps = HEnd.split ps' := h
    injection e with e
    rw [← e]
    exact g.done
  | c :: r, t, ls, ps, cs, ps', g, h => by
    unfold ho at h
    cases hall : (ls.all fun l => decide (l < c)) with
    | true =>
      rw [hall, if_pos rfl] at h
      cases h
    | false =>
      rw [hall, if_neg (by decide)] at h
      cases ha : ans cs (c, ls) with
      | none =>
        rw [ha] at h
        cases h
      | some o =>
        rw [ha] at h
        cases o with
        | none => cases h
        | some j =>
          obtain ⟨h1, h2⟩ := V cs c ls j hall ha
          exact ho_split V r (t + 1) _ _ _ ps' (g.step h1 h2) h
theorem start_go {W coins : List Int} (hs : W.sum = coins.sum) (hn : ∀ x ∈ W, 0 ≤ x) (ha : coins.Pairwise (· ≤ ·)) : Go W coins coins.reverse W (W.map fun _ => []) := by
  have hm : ∀ p ∈ (W.map fun _ => ([] : List Int)), p = [] := fun p hp => by
    obtain ⟨_, _, e⟩ := List.mem_map.mp hp
    exact e.symm
  refine ⟨rfl, by simp, hn, fun j hj => ?_, ?_, by simp [hs], fun p hp => by rw [hm p hp]; exact .nil, fun p hp x hx => by rw [hm p hp] at hx; simp at hx, ?_⟩
  · have e : (W.map fun _ => ([] : List Int)).getD j [] = [] := by
      rw [getD_lt (by simpa using hj)]
      simp
    rw [e]
    simp
  · have e : (W.map fun _ => ([] : List Int)).flatten = [] := by
      apply List.flatten_eq_nil_iff.mpr
      exact hm
    rw [e]
    exact List.reverse_perm coins
  · exact List.pairwise_reverse.mpr ha
/-! ### a serving pool -/
/-- each coin is at most the room of the coins up to it (the greatest first) -/
def Serve (m : Int) : List Int → Prop
  | [] => True
  | c :: r => m * (c - 1) < (c :: r).sum ∧ Serve m r
theorem all_lt_sum : ∀ (ls : List Int) (c : Int), (∀ l ∈ ls, l < c) → ls.sum ≤ (ls.length : Int) * (c - 1)
  | [], c, _ => by simp
  | a :: ls, c, h => by
    have i := all_lt_sum ls c fun l hl => h l (by simp [hl])
    have z := h a (by simp)
    rw [List.sum_cons, List.length_cons]
    have e : ((ls.length + 1 : Nat) : Int) * (c - 1) = (ls.length : Int) * (c - 1) + (c - 1) := by
      rw [Int.natCast_add, Int.add_mul]
      simp
    omega
theorem ho_serve {ans : List Call → Call → Option (Option Nat)} {W coins : List Int} (V : Valid ans) : ∀ (r : List Int) (t : Nat) (ls : List Int) (ps : List (List Int)) (cs : List Call), Go W coins r ls ps → Serve W.length r → ∃ ps', (ho ans t r ls ps cs).1 = .split ps'
  | [], t, ls, ps, cs, g, _ => ⟨ps, rfl⟩
  | c :: r, t, ls, ps, cs, g, s => by
    unfold ho
    cases hall : (ls.all fun l => decide (l < c)) with
    | true =>
      have z := all_lt_sum ls c fun l hl => of_decide_eq_true (List.all_eq_true.mp hall l hl)
      have z2 := s.1
      rw [g.len] at z
      rw [g.sum] at z
      omega
    | false =>
      rw [if_neg (by decide)]
      obtain ⟨j, ha, h1, h2⟩ := V cs c ls hall
      rw [ha]
      exact ho_serve V r (t + 1) _ _ _ (g.step h1 h2) s.2
/-! ### the hard wish -/
theorem ho_hard {ans : List Call → Call → Option (Option Nat)} (V : Valid ans) (c : Int) (A others : List Int) (f : Int) (hf : f < c) (ho' : ∀ x ∈ others, x < c) : ∀ (D : List Int) (t : Nat) (ps : List (List Int)) (cs : List Call), (∀ d ∈ D, c ≤ d) →
    ∃ k ls, (ho ans t (D ++ c :: A) ((f + D.sum) :: others) ps cs).1 = .stuck k ls
  | [], t, ps, cs, _ => by
    unfold ho
    have hall : (((f + ([] : List Int).sum) :: others).all fun l => decide (l < c)) = true := by
      rw [List.all_eq_true]
      intro l hl
      rcases List.mem_cons.mp hl with e | e
      · rw [e]
        simp
        exact hf
      · exact decide_eq_true (ho' l e)
    simp only [List.nil_append]
    rw [hall]
    exact ⟨_, _, rfl⟩
  | d :: D, t, ps, cs, hD => by
    unfold ho
    simp only [List.cons_append]
    cases hall : (((f + (d :: D).sum) :: others).all fun l => decide (l < d)) with
    | true => exact ⟨_, _, rfl⟩
    | false =>
      rw [if_neg (by decide)]
      obtain ⟨j, ha, h1, h2⟩ := V cs d _ hall
      rw [ha]
      have hd := hD d (by simp)
      cases j with
      | zero =>
        have e : ((f + (d :: D).sum) :: others).set 0 (((f + (d :: D).sum) :: others).getD 0 0 - d) = (f + D.sum) :: others := by
          simp only [List.set_cons_zero, List.getD_cons_zero, List.sum_cons]
          congr 1
          omega
        show ∃ k ls, (ho ans (t + 1) (D ++ c :: A) (((f + (d :: D).sum) :: others).set 0 (((f + (d :: D).sum) :: others).getD 0 0 - d)) _ _).1 = _
        rw [e]
        exact ho_hard V c A others f hf ho' D (t + 1) _ _ fun x hx => hD x (by simp [hx])
      | succ j =>
        have h3 : j < others.length := by simpa using h1
        rw [List.getD_cons_succ, getD_lt h3] at h2
        have z := ho' _ (List.getElem_mem h3)
        omega
/-! ### parts -/
def up (a m : Int) : Int := (a + m - 1) / m
def parts : Nat → Int → List Int
  | 0, _ => []
  | n + 1, L => up L ((n : Int) + 1) :: parts n (L - up L ((n : Int) + 1))
theorem up_spec {a m q : Int} (hm : 1 ≤ m) (hm5 : m ≤ 5) (h0 : 0 ≤ a) (hq : a ≤ m * q) : 0 ≤ up a m ∧ up a m ≤ q ∧ up a m ≤ a ∧ a - up a m ≤ (m - 1) * q := by
  unfold up
  have hm : m = 1 ∨ m = 2 ∨ m = 3 ∨ m = 4 ∨ m = 5 := by omega
  rcases hm with e | e | e | e | e <;> subst e <;> refine ⟨by omega, by omega, by omega, by omega⟩
theorem parts_spec : ∀ (n : Nat) (L q : Int), n ≤ 5 → 0 ≤ L → L ≤ (n : Int) * q → (∀ x ∈ parts n L, 0 ≤ x ∧ x ≤ q) ∧ (parts n L).sum = L ∧ (parts n L).length = n
  | 0, L, q, _, h0, h => by
    have : L = 0 := by simp at h; omega
    subst this
    simp [parts]
  | n + 1, L, q, hn, h0, h => by
    have e : ((n + 1 : Nat) : Int) = (n : Int) + 1 := by simp
    rw [e] at h
    obtain ⟨u1, u2, u3, u4⟩ := up_spec (a := L) (m := (n : Int) + 1) (q := q) (by omega) (by omega) h0 h
    have e2 : (n : Int) + 1 - 1 = n := by omega
    rw [e2] at u4
    obtain ⟨i1, i2, i3⟩ := parts_spec n (L - up L ((n : Int) + 1)) q (by omega) (by omega) u4
    refine ⟨fun x hx => ?_, ?_, ?_⟩
    · unfold parts at hx
      rcases List.mem_cons.mp hx with e | e
      · rw [e]
        exact ⟨u1, u2⟩
      · exact i1 x e
    · unfold parts
      rw [List.sum_cons, i2]
      omega
    · unfold parts
      rw [List.length_cons, i3]
end Hand

set_option Elab.async false
set_option linter.all false
set_option maxRecDepth 100000
set_option maxHeartbeats 4000000
/-! The law's hand, its draws and the plain small defs. -/
namespace K12
open PySem PySem.Spec PyProof.Rows L2
theorem _root_.L2.Same.new {H : Hp} {p : Addr} {o : HO} (n : H p = none) : Same H (upd H p o) := fun b u e => by
  rw [upd_ne (ne_of_none e n)]
  exact e
/-- an object that was not there at the start is written -/
theorem _root_.L2.Same.mut {H H1 : Hp} {p : Addr} {o : HO} (s : Same H H1) (n : H p = none) : Same H (upd H1 p o) := fun b u e => by
  rw [upd_ne (ne_of_none e n)]
  exact s b u e
theorem at_map {α : Type} {f : α → V} {ns : List α} {i : Nat} {y : V} (h : (ns.map f)[i]? = some y) : ∃ z, ns[i]? = some z ∧ y = f z := by
  rw [List.getElem?_map] at h
  cases e : ns[i]? with
  | none =>
    rw [e] at h
    cases h
  | some z =>
    rw [e] at h
    exact ⟨z, rfl, (Option.some.inj h).symm⟩
theorem map_snoc {α β : Type} (f : α → β) (l : List α) (x : α) : l.map f ++ [f x] = (l ++ [x]).map f := by simp
theorem cdivW {i j : Int} (h : 0 < j) (hb : j ≤ 1000000000000) : CDivW i j := wide_div (b := 60) h (by omega) (by decide) (by decide)
theorem if_eqI {a b : Int} {A B : Prop} (h1 : a = b → A) (h2 : a ≠ b → B) : if decide (V.int a = V.int b) = true then A else B := by
  by_cases h : a = b
  · rw [if_pos (decide_eq_true (by rw [h]))]
    exact h1 h
  · rw [if_neg (by rw [decide_eq_false (fun z => h (by injection z))]; exact Bool.false_ne_true)]
    exact h2 h
theorem if_dec {p A B : Prop} [Decidable p] (h1 : p → A) (h2 : ¬ p → B) : if decide p = true then A else B := by
  by_cases h : p
  · rw [if_pos (decide_eq_true h)]
    exact h1 h
  · rw [if_neg (by rw [decide_eq_false h]; exact Bool.false_ne_true)]
    exact h2 h
local macro_rules | `(tactic| walk_at "rd") => `(tactic| repeat (first | (with_reducible exact trivial) | refine ⟨_, rfl, ?_⟩ | refine ⟨_, _, rfl, rfl, ?_⟩ | refine Or.inl ⟨_, rfl, ?_⟩ | refine ⟨Or.inr ⟨by decide, by decide⟩, ?_⟩ | refine ⟨Or.inl ⟨by omega, by omega⟩, ?_⟩ | refine ⟨⟨by decide, by decide +kernel⟩, ?_⟩ | refine ⟨(show (0 : Int) < _ from by decide), ?_⟩ | refine ⟨(show (0 : Int) < _ from by omega), ?_⟩ | refine ⟨cdivW (by omega) (by omega), ?_⟩ | refine ⟨_, _, _, _, rfl, rfl, SqL.of (by first | assumption | exact upd_same), by rfl, ?_⟩ | refine ⟨_, _, _, _, rfl, rfl, (by first | assumption | exact upd_same), by rfl, ?_⟩ | refine ⟨_, _, rfl, Or.inl (SqL.of (by first | assumption | exact upd_same)), ?_⟩ | refine ⟨Or.inl ⟨rfl, _, SqL.of (by first | assumption | exact upd_same)⟩, ?_⟩ | refine ⟨_, _, _, rfl, rfl, (by first | assumption | exact upd_same), (Evl.sz_lt (by first | omega | (simp only [List.length_map]; omega))), ?_⟩ | refine ⟨rfl, ?_⟩))
section
variable {P : Program} {w : World} {K : PySem.W.Frag} {mg : Str → Option Value} {base : Heap}
def spStirred : Sp := fun vs H Q _ => ∃ a b : Int, vs = [.int a, .int b] ∧ 0 ≤ a ∧ a < 1000000000000 ∧ 0 ≤ b ∧ b < 1000000000000 ∧ ∀ r : Int, 0 ≤ r → Q (.int r) H
theorem h_l_stirred (T : Txt K mg) : Has P w K mg base CX0 1 "_law_stirred" P_l_stirred spStirred := by
  obtain ⟨f, fd, g, F⟩ := T.dfn ("_law_stirred", 30) (by decide +kernel)
  refine ⟨f, fd, g, F.kp, F.bindsN (fun _ _ _ _ _ _ us hl => match us, hl with | [_, _], _ => rfl), F.ok sc_l_stirred (fun vs H Q E h => ?_) fun cdv A outer s H vs Q E hr h => ?_⟩
  · obtain ⟨a, b, rfl, _⟩ := h
    rfl
  · obtain ⟨a, b, rfl, a0, a1, b0, b1, k⟩ := h
    refine ⟨_, PSs.nox (pss_cons (ps_set (i := 2) sc_l_stirred.nd rfl (Or.inl rfl) (pe_op op_mod (pe_callTy call_int1 rfl (T.free "int" (by decide)) (by decide +kernel) (pa_cons (pe_op op_add (pe_op op_add (pe_op op_mul (pv 0) pe_int) (pe_op op_mul (pv 1) pe_int)) pe_int) pa_nil)) pe_int))
  (pss_cons (ps_set (i := 3) sc_l_stirred.nd rfl (Or.inl rfl) (pe_op op_mod (pe_callTy call_int1 rfl (T.free "int" (by decide)) (by decide +kernel) (pa_cons (pe_op op_add (pe_op op_add (pe_op op_mul (pv 2) (pv 2)) (pe_op op_mul (pv 1) pe_int)) (pe_op op_fdivW (pv 2) pe_int)) pa_nil)) pe_int))
  (pss_one (ps_ret (pe_op op_fdivW (pe_callTy call_int1 rfl (T.free "int" (by decide)) (by decide +kernel) (pa_cons (pe_op op_mod (pe_callTy call_int1 rfl (T.free "int" (by decide)) (by decide +kernel) (pa_cons (pe_op op_add (pe_op op_mul (pv 3) pe_int) (pe_op op_fdivW (pv 2) pe_int)) pa_nil)) pe_int) pa_nil)) pe_int)))))
    , ?_⟩
    walk_at "rd"
    exact k _ (by omega)
def spTake : Sp := fun vs H Q _ => ∃ (hd : Hd) (m : Int), vs = [.ref hd.1, .int m] ∧ St hd H ∧ 1 ≤ m ∧ m ≤ 1000000000000 ∧ ∀ (r : Int) (H' : Hp), 0 ≤ r → r < m → St hd H' → Kh hd.1 H H' → Q (.int r) H'
theorem h_l_take (T : Txt K mg) : Has P w K mg base CX0 2 "_law_take" P_l_take spTake := by
  obtain ⟨f, fd, g, F⟩ := T.dfn ("_law_take", 31) (by decide +kernel)
  have h_l_stirred := h_l_stirred (P := P) (w := w) (base := base) T
  refine ⟨f, fd, g, F.kp, F.bindsN (fun _ _ _ _ _ _ us hl => match us, hl with | [_, _], _ => rfl), F.ok sc_l_take (fun vs H Q E h => ?_) fun cdv A outer s H vs Q E hr h => ?_⟩
  · obtain ⟨a, b, rfl, _⟩ := h
    rfl
  · obtain ⟨⟨hd, ca⟩, m, rfl, ⟨cells, pos, left, mixed, hh, hc, nc, cn, p0, p1, cl, l0, m0, m1⟩, k0, k1, k⟩ := h
    have hh : H hd = some (.lst [.ref ca, .int pos, .int left, .int mixed]) := hh
    have hc : H ca = some (.lst (cells.map V.int)) := hc
    have nc : ca ≠ hd := nc
    refine ⟨_, PSs.nox (Evl.pss_cut (ps_if (PW.pt (pw_and (pt_cmpR op_eq (pe_ix ix_list (pv 0) pe_int (fun _ _ => rfl)) pe_int (nomark _)) (pw_and1 (pt_cmpR op_lt (pe_ix ix_list (pv 0) pe_int (fun _ _ => rfl)) (pe_callB call_len_seq rfl (T.free "len" (by decide)) (by decide +kernel) (pa_cons (pe_ix ix_list (pv 0) pe_int (fun _ _ => rfl)) pa_nil)) (nomark _)))))
    (pss_cons (ps_set (i := 2) sc_l_take.nd rfl (Or.inl rfl) (pe_ix ix_list (pe_ix ix_list (pv 0) pe_int (fun _ _ => rfl)) (pe_ix ix_list (pv 0) pe_int (fun _ _ => rfl)) (fun _ _ => rfl)))
    (pss_cons (ps_asg (pe_op op_add (pe_ix ix_list (pv 0) pe_int (fun _ _ => rfl)) pe_int) (pg_sub (pv 0) pe_int set_list))
    (pss_cons (ps_if (pt_cmpR op_lt (pv 2) (pe_op op_pow pe_int pe_int) (nomark _))
      (pss_one (ps_ret (pe_op op_mod (pe_callTy call_int1 rfl (T.free "int" (by decide)) (by decide +kernel) (pa_cons (pe_has h_l_stirred hr (by decide) (pa_cons (pe_op op_add (pe_op op_mod (pe_callTy call_int1 rfl (T.free "int" (by decide)) (by decide +kernel) (pa_cons (pv 2) pa_nil)) pe_int) (pe_op op_mod (pe_ix ix_list (pv 0) pe_int (fun _ _ => rfl)) pe_int)) (pa_cons (pe_ix ix_list (pv 0) pe_int (fun _ _ => rfl)) pa_nil))) pa_nil)) (pv 1))))
      pss_nil)
    (pss_one (ps_asg (pv 2) (pg_sub (pv 0) pe_int set_list))))))
    pss_nil)
  (pss_cons (ps_if (pt_cmpR op_gt (pe_ix ix_list (pv 0) pe_int (fun _ _ => rfl)) pe_int (nomark _))
    (pss_cons (ps_set (i := 3) sc_l_take.nd rfl (Or.inl rfl) (pe_ix ix_list (pv 0) pe_int (fun _ _ => rfl)))
    (pss_cons (ps_asg (pe_op op_fdivW (pe_callTy call_int1 rfl (T.free "int" (by decide)) (by decide +kernel) (pa_cons (pv 3) pa_nil)) (pv 1)) (pg_sub (pv 0) pe_int set_list))
    (pss_one (ps_ret (pe_op op_mod (pe_callTy call_int1 rfl (T.free "int" (by decide)) (by decide +kernel) (pa_cons (pv 3) pa_nil)) (pv 1))))))
    pss_nil)
  (pss_cons (ps_asg (pe_op op_mod (pe_callTy call_int1 rfl (T.free "int" (by decide)) (by decide +kernel) (pa_cons (pe_op op_add (pe_ix ix_list (pv 0) pe_int (fun _ _ => rfl)) pe_int) pa_nil)) pe_int) (pg_sub (pv 0) pe_int set_list))
  (pss_one (ps_ret (pe_op op_mod (pe_callTy call_int1 rfl (T.free "int" (by decide)) (by decide +kernel) (pa_cons (pe_has h_l_stirred hr (by decide) (pa_cons (pe_ix ix_list (pv 0) pe_int (fun _ _ => rfl)) (pa_cons (pe_ix ix_list (pv 0) pe_int (fun _ _ => rfl)) pa_nil))) pa_nil)) (pv 1)))))))
    , ?_⟩
    obtain ⟨pn, rfl⟩ := Int.eq_ofNat_of_zero_le p0
    refine ⟨fun σ H1 => ∃ (x : Option V) (pos' : Int) (left' : Int), σ = [some (.ref hd), some (.int m), x, none] ∧ H1 hd = some (.lst [.ref ca, .int pos', .int left', .int mixed]) ∧ H1 ca = some (.lst (cells.map V.int)) ∧ Kh hd H H1 ∧ 0 ≤ left' ∧ 0 ≤ pos' ∧ pos' ≤ 100000000, ?_, ?_⟩
    · walk_at "rd"
      refine if_eqI (fun eL => ?_) (fun eL => ?_)
      · walk_at "rd"
        refine if_dec (fun c => ?_) fun c => ?_
        · rw [List.length_map] at c
          have hlt : pn < cells.length := by omega
          have hv : atI (cells.map V.int) (pn : Int) = some (V.int cells[pn]) := atI_nat (by rw [List.getElem?_map, List.getElem?_eq_getElem hlt] <;> rfl)
          have hc0 : 0 ≤ cells[pn] := cn _ (List.getElem_mem hlt)
          walk_at "rd"
          refine ⟨_, _, _, _, rfl, rfl, SqL.of hc, hv, ?_⟩
          walk_at "rd"
          refine if_dec (fun c2 => ?_) fun c2 => ?_
          · walk_at "rd"
            refine ⟨_, _, rfl, by omega, by omega, by omega, by omega, fun r r0 => ?_⟩
            walk_at "rd"
            exact k _ _ (Int.emod_nonneg _ (by omega)) (Int.emod_lt_of_pos _ (by omega)) ⟨cells, _, _, _, upd_same, (upd_ne nc).trans hc, nc, cn, by omega, by omega, cl, l0, m0, m1⟩ Kh.hand
          · walk_at "rd"
            exact ⟨_, _, _, rfl, upd_same, (upd_ne nc).trans ((upd_ne nc).trans hc), Kh.hand.trans Kh.hand, hc0, by omega, by omega⟩
        · exact ⟨_, _, _, rfl, hh, hc, Kh.refl _ _, l0, by omega, by omega⟩
      · exact ⟨_, _, _, rfl, hh, hc, Kh.refl _ _, l0, by omega, by omega⟩
    · rintro σ H1 ⟨x, pos', left', rfl, hh1, hc1, kh1, l1, p2, p3⟩
      walk_at "rd"
      refine if_dec (fun c => ?_) fun c => ?_
      · walk_at "rd"
        exact k _ _ (Int.emod_nonneg _ (by omega)) (Int.emod_lt_of_pos _ (by omega)) ⟨cells, _, _, _, upd_same, (upd_ne nc).trans hc1, nc, cn, p2, p3, cl, Int.ediv_nonneg l1 (by omega), m0, m1⟩ (kh1.trans Kh.hand)
      · walk_at "rd"
        refine ⟨_, _, rfl, Int.emod_nonneg _ (by decide), by omega, by omega, by omega, fun r r0 => ?_⟩
        walk_at "rd"
        exact k _ _ (Int.emod_nonneg _ (by omega)) (Int.emod_lt_of_pos _ (by omega)) ⟨cells, _, _, _, upd_same, (upd_ne nc).trans hc1, nc, cn, p2, p3, cl, l1, Int.emod_nonneg _ (by decide), Int.emod_lt_of_pos _ (by decide)⟩ (kh1.trans Kh.hand)
def spUp : Sp := fun vs H Q _ => ∃ a m : Int, vs = [.int a, .int m] ∧ 1 ≤ m ∧ m ≤ 1000 ∧ Q (.int ((a + m - 1) / m)) H
theorem h_l_up (T : Txt K mg) : Has P w K mg base CX0 1 "_law_up" P_l_up spUp := by
  obtain ⟨f, fd, g, F⟩ := T.dfn ("_law_up", 33) (by decide +kernel)
  refine ⟨f, fd, g, F.kp, F.bindsN (fun _ _ _ _ _ _ us hl => match us, hl with | [_, _], _ => rfl), F.ok sc_l_up (fun vs H Q E h => ?_) fun cdv A outer s H vs Q E hr h => ?_⟩
  · obtain ⟨a, b, rfl, _⟩ := h
    rfl
  · obtain ⟨a, m, rfl, m0, m1, k⟩ := h
    refine ⟨_, PSs.nox (pss_one (ps_ret (pe_op op_fdivW (pe_op op_sub (pe_op op_add (pv 0) (pv 1)) pe_int) (pv 1))))
    , ?_⟩
    walk_at "rd"
    exact k
def roomI (t m : Int) : Int := if m = 1 then 9 else t / (m - 1) + 1
def spRoom : Sp := fun vs H Q _ => ∃ a m : Int, vs = [.int a, .int m] ∧ 1 ≤ m ∧ m ≤ 1000 ∧ Q (.int (roomI a m)) H
theorem h_l_room (T : Txt K mg) : Has P w K mg base CX0 1 "_law_room" P_l_room spRoom := by
  obtain ⟨f, fd, g, F⟩ := T.dfn ("_law_room", 35) (by decide +kernel)
  refine ⟨f, fd, g, F.kp, F.bindsN (fun _ _ _ _ _ _ us hl => match us, hl with | [_, _], _ => rfl), F.ok sc_l_room (fun vs H Q E h => ?_) fun cdv A outer s H vs Q E hr h => ?_⟩
  · obtain ⟨a, b, rfl, _⟩ := h
    rfl
  · obtain ⟨a, m, rfl, m0, m1, k⟩ := h
    refine ⟨_, PSs.nox (pss_one (ps_ret (pe_ifExp (pt_cmpR op_eq (pv 1) pe_int (nomark _)) pe_int (pe_op op_add (pe_op op_fdivW (pv 0) (pe_op op_sub (pv 1) pe_int)) pe_int))))
    , ?_⟩
    walk_at "rd"
    refine if_eqI (fun e => ?_) fun e => ?_
    · unfold roomI at k
      rw [if_pos e] at k
      exact k
    · unfold roomI at k
      rw [if_neg e] at k
      walk_at "rd"
      exact k
def spPeople : Sp := fun vs H Q _ => ∃ hd : Hd, vs = [.ref hd.1] ∧ St hd H ∧ ∀ (m : Int) (H' : Hp), 1 ≤ m → m ≤ 5 → St hd H' → Kh hd.1 H H' → Q (.int m) H'
theorem h_l_people (T : Txt K mg) : Has P w K mg base CX0 3 "_law_people" P_l_people spPeople := by
  obtain ⟨f, fd, g, F⟩ := T.dfn ("_law_people", 34) (by decide +kernel)
  have h_l_take := h_l_take (P := P) (w := w) (base := base) T
  refine ⟨f, fd, g, F.kp, F.bindsN (fun _ _ _ _ _ _ us hl => match us, hl with | [_], _ => rfl), F.ok sc_l_people (fun vs H Q E h => ?_) fun cdv A outer s H vs Q E hr h => ?_⟩
  · obtain ⟨a, rfl, _⟩ := h
    rfl
  · obtain ⟨hd, rfl, hs, k⟩ := h
    refine ⟨_, PSs.nox (pss_one (ps_ret (pe_ix ix_list (pe_lst (pa_cons pe_int (pa_cons pe_int (pa_cons pe_int (pa_cons pe_int (pa_cons pe_int (pa_cons pe_int (pa_cons pe_int (pa_cons pe_int pa_nil))))))))) (pe_has h_l_take hr (by decide) (pa_cons (pv 0) (pa_cons pe_int pa_nil))) (fun _ _ => rfl))))
    , ?_⟩
    walk_at "rd"
    refine ⟨Evl.sz_of (by decide), fun p np => ?_⟩
    refine ⟨_, rfl, hd, _, rfl, hs.new np, by decide, by decide, fun r H1 r0 r1 s1 k1 => ?_⟩
    have hp := k1 p _ (hs.ne np) upd_same
    obtain ⟨n, rfl⟩ := Int.eq_ofNat_of_zero_le r0
    have kk : Kh hd.1 H H1 := (Kh.new np).trans k1
    have hn : n = 0 ∨ n = 1 ∨ n = 2 ∨ n = 3 ∨ n = 4 ∨ n = 5 ∨ n = 6 ∨ n = 7 := by omega
    rcases hn with e | e | e | e | e | e | e | e <;> (subst e; exact ⟨_, _, _, _, rfl, rfl, SqL.of hp, rfl, k _ _ (by decide) (by decide) s1 kk⟩)
def coinsLo (lo hi : Int) (cs : List Int) : Prop := ∀ c ∈ cs, lo ≤ c ∧ c ≤ hi
/-- the hand of a script -/
def spHand0 (K : PySem.W.Frag) : Sp := fun vs H Q _ => ∃ (a : Addr) (ns : List Int), vs = [.ref a] ∧ SqL K H a (ns.map V.int) ∧ ns.length ≤ 63 ∧ ∀ (hd : Hd) (H' : Hp), St hd H' → Same H H' → H hd.1 = none → Q (.ref hd.1) H'
theorem h_l_hand (T : Txt K mg) : Has P w K mg base CX0 1 "_law_hand" P_l_hand (spHand0 K) := by
  obtain ⟨f, fd, g, F⟩ := T.dfn ("_law_hand", 29) (by decide +kernel)
  refine ⟨f, fd, g, F.kp, F.bindsN (fun _ _ _ _ _ _ us hl => match us, hl with | [_], _ => rfl), F.ok sc_l_hand (fun vs H Q E h => ?_) fun cdv A outer s H vs Q E hr h => ?_⟩
  · obtain ⟨a, b, rfl, _⟩ := h
    rfl
  · obtain ⟨a, ns, rfl, hs, hl, k⟩ := h
    refine ⟨_, PSs.nox (pss_cons (ps_set (i := 1) sc_l_hand.nd rfl (Or.inl rfl) pe_int)
  (pss_cons (ps_set (i := 2) sc_l_hand.nd rfl (Or.inl rfl) (pe_lst pa_nil))
  (pss_cons (ps_for PassesOwn.never rfl (pi_list (pv 0)) (pg_name (i := 3) sc_l_hand.nd rfl (Or.inl rfl))
    (pss_cons (ps_set (i := 1) sc_l_hand.nd rfl (Or.inl rfl) (pe_op op_mod (pe_callTy call_int1 rfl (T.free "int" (by decide)) (by decide +kernel) (pa_cons (pe_op op_add (pe_op op_mul (pv 1) pe_int) (pe_op op_mod (pe_callTy call_int1 rfl (T.free "int" (by decide)) (by decide +kernel) (pa_cons (pv 3) pa_nil)) pe_int)) pa_nil)) pe_int))
    (pss_one (ps_expr (pe_bm PySem.F.plainAttrs_list PySem.F.slot_list_append PySem.F.type_list_append mt_append (pv 2) (pa_cons (pe_callB call_abs rfl (T.free "abs" (by decide)) (by decide +kernel) (pa_cons (pe_callTy call_int1 rfl (T.free "int" (by decide)) (by decide +kernel) (pa_cons (pv 3) pa_nil)) pa_nil)) pa_nil))))))
  (pss_one (ps_ret (pe_lst (pa_cons (pv 2) (pa_cons pe_int (pa_cons pe_int (pa_cons (pv 1) pa_nil))))))))))
    , ?_⟩
    walk_at "rd"
    refine ⟨Evl.sz_of (by decide), fun p np => ?_⟩
    refine ⟨_, rfl, a, rfl, ⟨_, (Same.new np).seq hs⟩, for_list (K := K) (a := a) (xs := ns.map V.int) (fun i σ H1 => ∃ (x : Option V) (mixed : Int) (cells : List Int), σ = [some (.ref a), some (.int mixed), some (.ref p), x] ∧ H1 p = some (.lst (cells.map V.int)) ∧ cells.length = i ∧ (∀ c ∈ cells, 0 ≤ c) ∧ 0 ≤ mixed ∧ mixed < 2147483579 ∧ Same H H1)
      ⟨none, 60013, [], rfl, upd_same, rfl, by simp, by decide, by decide, Same.new np⟩ (fun i σ H1 _ ⟨_, _, _, _, _, _, _, _, _, sm⟩ => sm.seq hs) ?_ ?_⟩
    · rintro i y σ H1 hi ⟨x, mixed, cells, rfl, hp, cl, c0, m0, m1, sm⟩
      obtain ⟨z, hz, rfl⟩ := at_map hi
      have hlt : i < ns.length := (List.getElem?_eq_some_iff.mp hz).1
      walk_at "rd"
      refine ⟨some (.int z), _, cells ++ [if z < 0 then -z else z], rfl, ?_, by rw [List.length_append, cl]; rfl, ?_, Int.emod_nonneg _ (by decide), Int.emod_lt_of_pos _ (by decide), sm.mut np⟩
      · rw [upd_same, map_snoc]
      · intro c hc
        rcases List.mem_append.mp hc with hc | hc
        · exact c0 c hc
        · rw [List.mem_singleton.mp hc]
          split <;> omega
    · rintro σ H1 ⟨x, mixed, cells, rfl, hp, cl, c0, m0, m1, sm⟩
      walk_at "rd"
      refine ⟨Evl.sz_of (show (4 : Nat) ≤ _ from by decide), fun q nq => ?_⟩
      have nqp : q ≠ p := fun z => by
        rw [← z, nq] at hp
        cases hp
      refine k (q, p) _ ⟨cells, 0, 0, mixed, upd_same, (upd_ne (Ne.symm nqp)).trans hp, Ne.symm nqp, c0, by decide, by decide, ?_, by decide, m0, m1⟩ (sm.trans (Same.new nq)) (sm.free nq)
      rw [cl, List.length_map]
      omega
end
end K12

set_option Elab.async false
set_option linter.all false
set_option maxRecDepth 100000
set_option maxHeartbeats 4000000
/-! is_whole, is_sequence, the law's small questions. -/
namespace K12
open PySem PySem.Spec PyProof.Rows L2 K12L
local macro_rules | `(tactic| walk_at "rd") => `(tactic| repeat (first | (with_reducible exact trivial) | refine ⟨_, rfl, ?_⟩ | refine ⟨_, _, rfl, rfl, ?_⟩ | refine Or.inl ⟨_, rfl, ?_⟩ | refine ⟨Or.inr ⟨by decide, by decide⟩, ?_⟩ | refine ⟨Or.inl ⟨by omega, by omega⟩, ?_⟩ | refine ⟨⟨by decide, by decide +kernel⟩, ?_⟩ | refine ⟨(show (0 : Int) < _ from by decide), ?_⟩ | refine ⟨(show (0 : Int) < _ from by omega), ?_⟩ | refine ⟨cdivW (by omega) (by omega), ?_⟩ | refine ⟨_, _, _, _, rfl, rfl, SqL.of (by first | assumption | exact upd_same), by rfl, ?_⟩ | refine ⟨_, _, _, _, rfl, rfl, (by first | assumption | exact upd_same), by rfl, ?_⟩ | refine ⟨_, _, rfl, Or.inl (SqL.of (by first | assumption | exact upd_same)), ?_⟩ | refine ⟨Or.inl ⟨rfl, _, SqL.of (by first | assumption | exact upd_same)⟩, ?_⟩ | refine ⟨_, _, _, rfl, rfl, (by first | assumption | exact upd_same), (Evl.sz_lt (by first | omega | (simp only [List.length_map]; omega))), ?_⟩ | refine ⟨rfl, ?_⟩))
def kindO : Option HO → Option String
  | some (.tup _) => some "tuple"
  | some (.lst _) => some "list"
  | some (.dK _) => some "dict"
  | _ => none
def tyS (H : Hp) : V → Option String
  | .int _ => some "int"
  | .bl _ => some "bool"
  | .str _ => some "str"
  | .non => some "NoneType"
  | .ref a => kindO (H a)
  | _ => none
theorem kindO_cases {o : Option HO} {t : String} (h : kindO o = some t) : (∃ xs, o = some (.tup xs) ∧ t = "tuple") ∨ (∃ xs, o = some (.lst xs) ∧ t = "list") ∨ (∃ xs, o = some (.dK xs) ∧ t = "dict") := by
  cases o with
  | none => cases h
  | some o =>
    cases o with
    | tup xs => exact .inl ⟨xs, rfl, (Option.some.inj h).symm⟩
    | lst xs => exact .inr (.inl ⟨xs, rfl, (Option.some.inj h).symm⟩)
    | dK xs => exact .inr (.inr ⟨xs, rfl, (Option.some.inj h).symm⟩)
    | _ => cases h
theorem tyS_ok {K : PySem.W.Frag} {H : Hp} {x : V} {t : String} (h : tyS H x = some t) : TyX K H x (.type t) := by
  cases x with
  | int n =>
    cases Option.some.inj h
    exact .base (.int n)
  | bl b =>
    cases Option.some.inj h
    exact .base (.bl b)
  | str b =>
    cases Option.some.inj h
    exact .base (.str b)
  | non =>
    cases Option.some.inj h
    exact .base .non
  | ref a =>
    rcases kindO_cases h with ⟨xs, e, rfl⟩ | ⟨xs, e, rfl⟩ | ⟨xs, e, rfl⟩
    · exact .base (.tup e)
    · exact .base (.lst e)
    · exact .base (.dK e)
  | byt b => cases h
  | flt b => cases h
  | ty b => cases h
def wholeB (lo hi : Int) : V → Bool
  | .int n => decide (lo ≤ n ∧ n ≤ hi)
  | _ => false
/-- the kinds that are no whole number -/
def kinds : List String := ["str", "NoneType", "tuple", "list", "dict"]
theorem tyS_cases {H : Hp} {x : V} {t : String} (h : tyS H x = some t) : (∃ n, x = .int n) ∨ (∃ b, x = .bl b) ∨ (t ∈ kinds ∧ ∀ lo hi, wholeB lo hi x = false) := by
  cases x with
  | int n => exact .inl ⟨n, rfl⟩
  | bl n => exact .inr (.inl ⟨n, rfl⟩)
  | str b =>
    cases Option.some.inj h
    exact .inr (.inr ⟨by decide, fun _ _ => rfl⟩)
  | non =>
    cases Option.some.inj h
    exact .inr (.inr ⟨by decide, fun _ _ => rfl⟩)
  | ref a =>
    refine .inr (.inr ⟨?_, fun _ _ => rfl⟩)
    rcases kindO_cases h with ⟨xs, e, rfl⟩ | ⟨xs, e, rfl⟩ | ⟨xs, e, rfl⟩ <;> decide
  | byt b => cases h
  | flt b => cases h
  | ty b => cases h
theorem kit_no {t : String} (h : t ∈ kinds) : kitB t "int" = some false ∧ kitB t "bool" = some false := by
  have z : ∀ t ∈ kinds, kitB t "int" = some false ∧ kitB t "bool" = some false := by decide +kernel
  exact z t h
section
variable {P : Program} {w : World} {K : PySem.W.Frag} {mg : Str → Option Value} {base : Heap}
def spIsWhole : Sp := fun vs H Q _ => ∃ (x : V) (lo hi : Int) (t : String), vs = [x, .int lo, .int hi] ∧ tyS H x = some t ∧ Q (.bl (wholeB lo hi x)) H
theorem h_is_whole (T : Txt K mg) : Has P w K mg base CX0 1 "is_whole" P_is_whole spIsWhole := by
  obtain ⟨f, fd, g, F⟩ := T.dfn ("is_whole", 12) (by decide +kernel)
  refine ⟨f, fd, g, F.kp, F.bindsN (fun _ _ _ _ _ _ us hl => match us, hl with | [_, _, _], _ => rfl), F.ok sc_is_whole (fun vs H Q E h => ?_) fun cdv A outer s H vs Q E hr h => ?_⟩
  · obtain ⟨a, lo, hi, t, rfl, _⟩ := h
    rfl
  · obtain ⟨x, lo, hi, t, rfl, ht, k⟩ := h
    refine ⟨_, PSs.nox (pss_one (ps_ret (pe_and (pe_callB call_isi rfl (T.free "isinstance" (by decide)) (by decide +kernel) (pa_cons (pv 0) (pa_cons (pe_bltn (v := .ty "int") rfl (T.free "int" (by decide)) (by decide +kernel) rfl) pa_nil))) (pe_and (pe_not (pe_callB call_isi rfl (T.free "isinstance" (by decide)) (by decide +kernel) (pa_cons (pv 0) (pa_cons (pe_bltn (v := .ty "bool") rfl (T.free "bool" (by decide)) (by decide +kernel) rfl) pa_nil)))) (pe_one (pe_chain op_le op_le (pv 1) (pv 0) (pv 2)))))))
    , ?_⟩
    have tx := tyS_ok (K := K) ht
    rcases tyS_cases ht with ⟨n, rfl⟩ | ⟨b, rfl⟩ | ⟨hk, hw⟩
    · cases Option.some.inj ht
      refine ⟨_, rfl, ⟨_, _, _, _, true, rfl, .ty _, tx, kit_ty (by decide +kernel), ?_⟩⟩
      refine ⟨_, rfl, ⟨_, rfl, ⟨_, _, _, _, false, rfl, .ty _, tx, kit_ty (by decide +kernel), ?_⟩⟩⟩
      refine ⟨_, rfl, _, rfl, ?_⟩
      refine ⟨_, rfl, _, rfl, ⟨_, _, rfl, rfl, _, rfl, ?_⟩⟩
      refine if_dec (fun c => ?_) fun c => ?_
      · walk_at "rd"
        have e : wholeB lo hi (.int n) = decide (n ≤ hi) := by
          unfold wholeB
          rw [decide_eq_decide]
          exact ⟨fun z => z.2, fun z => ⟨c, z⟩⟩
        rw [e] at k
        exact k
      · have e : wholeB lo hi (.int n) = false := by
          unfold wholeB
          exact decide_eq_false fun z => c z.1
        rw [e] at k
        exact k
    · cases Option.some.inj ht
      refine ⟨_, rfl, ⟨_, _, _, _, true, rfl, .ty _, tx, kit_ty (by decide +kernel), ?_⟩⟩
      refine ⟨_, rfl, ⟨_, rfl, ⟨_, _, _, _, true, rfl, .ty _, tx, kit_ty (by decide +kernel), ?_⟩⟩⟩
      exact ⟨_, rfl, _, rfl, k⟩
    · rw [hw] at k
      exact ⟨_, rfl, ⟨_, _, _, _, false, rfl, .ty _, tx, kit_ty (kit_no hk).1, _, rfl, k⟩⟩
def spWhole : Sp := fun vs H Q _ => ∃ n : Int, vs = [.int n] ∧ Q (.bl true) H
theorem h_l_whole (T : Txt K mg) : Has P w K mg base CX0 1 "_law_whole" P_l_whole spWhole := by
  obtain ⟨f, fd, g, F⟩ := T.dfn ("_law_whole", 32) (by decide +kernel)
  refine ⟨f, fd, g, F.kp, F.bindsN (fun _ _ _ _ _ _ us hl => match us, hl with | [_], _ => rfl), F.ok sc_l_whole (fun vs H Q E h => ?_) fun cdv A outer s H vs Q E hr h => ?_⟩
  · obtain ⟨a, rfl, _⟩ := h
    rfl
  · obtain ⟨n, rfl, k⟩ := h
    refine ⟨_, PSs.nox (pss_one (ps_ret (pe_and (pe_callB call_isi rfl (T.free "isinstance" (by decide)) (by decide +kernel) (pa_cons (pv 0) (pa_cons (pe_bltn (v := .ty "int") rfl (T.free "int" (by decide)) (by decide +kernel) rfl) pa_nil))) (pe_one (pe_not (pe_callB call_isi rfl (T.free "isinstance" (by decide)) (by decide +kernel) (pa_cons (pv 0) (pa_cons (pe_bltn (v := .ty "bool") rfl (T.free "bool" (by decide)) (by decide +kernel) rfl) pa_nil))))))))
    , ?_⟩
    have tx := tyS_ok (K := K) (H := H) (x := .int n) rfl
    refine ⟨_, rfl, ⟨_, _, _, _, true, rfl, .ty _, tx, kit_ty (by decide +kernel), ?_⟩⟩
    refine ⟨_, rfl, ⟨_, rfl, ⟨_, _, _, _, false, rfl, .ty _, tx, kit_ty (by decide +kernel), ?_⟩⟩⟩
    exact ⟨_, rfl, k⟩
/-- a list (false) or a tuple (true) that stands in the heap -/
def SqH (b : Bool) (H : Hp) (a : Addr) (xs : List V) : Prop := H a = some (if b then .tup xs else .lst xs)
theorem SqH.q {b : Bool} {H : Hp} {a : Addr} {xs : List V} (h : SqH b H a xs) : Sq K b H a xs := by
  cases b with
  | true => exact SqT.of h
  | false => exact SqL.of h
theorem SqH.same {b : Bool} {H H' : Hp} {a : Addr} {xs : List V} (h : SqH b H a xs) (s : Same H H') : SqH b H' a xs := s _ _ h
def spIsSeq : Sp := fun vs H Q _ => ∃ (x : V) (lo hi : Int), vs = [x, .int lo, .int hi] ∧
  ((∃ a b xs, x = .ref a ∧ SqH b H a xs ∧ ∀ H', Same H H' → Q (.bl (decide (lo ≤ (xs.length : Int) ∧ (xs.length : Int) ≤ hi))) H') ∨ (∃ t : String, tyS H x = some t ∧ t ∈ ["int", "str", "NoneType", "dict"] ∧ ∀ H', Same H H' → Q (.bl false) H'))
theorem kit_any {t : String} {b : Bool} (h1 : kitB t "list" = some false) (h2 : kitB t "tuple" = some b) : PySem.W.kitAny K (.type t) [.type "list", .type "tuple"] = some b :=
  kitAny_cons (kit_ty h1) (fun _ => kitAny_cons (kit_ty h2) (fun e => by rw [e]; rfl) (fun e => e)) (fun z => nomatch z)
theorem kit_any1 {t : String} (h1 : kitB t "list" = some true) : PySem.W.kitAny K (.type t) [.type "list", .type "tuple"] = some true :=
  kitAny_cons (kit_ty h1) (fun z => nomatch z) (fun _ => rfl)
theorem h_is_sequence (T : Txt K mg) : Has P w K mg base CX0 1 "is_sequence" P_is_sequence spIsSeq := by
  obtain ⟨f, fd, g, F⟩ := T.dfn ("is_sequence", 13) (by decide +kernel)
  refine ⟨f, fd, g, F.kp, F.bindsN (fun _ _ _ _ _ _ us hl => match us, hl with | [_, _, _], _ => rfl), F.ok sc_is_sequence (fun vs H Q E h => ?_) fun cdv A outer s H vs Q E hr h => ?_⟩
  · obtain ⟨a, lo, hi, rfl, _⟩ := h
    rfl
  · obtain ⟨x, lo, hi, rfl, k⟩ := h
    refine ⟨_, PSs.nox (pss_one (ps_ret (pe_and (pe_callB call_isiT rfl (T.free "isinstance" (by decide)) (by decide +kernel) (pa_cons (pv 0) (pa_cons (pe_tup (pa_cons (pe_bltn (v := .ty "list") rfl (T.free "list" (by decide)) (by decide +kernel) rfl) (pa_cons (pe_bltn (v := .ty "tuple") rfl (T.free "tuple" (by decide)) (by decide +kernel) rfl) pa_nil))) pa_nil))) (pe_one (pe_chain op_le op_le (pv 1) (pe_callB call_len_seq rfl (T.free "len" (by decide)) (by decide +kernel) (pa_cons (pv 0) pa_nil)) (pv 2))))))
    , ?_⟩
    rcases k with ⟨a, b, xs, rfl, hs, k⟩ | ⟨t, ht, hk, k⟩
    · refine ⟨_, rfl, ⟨Evl.sz_of (show (2 : Nat) ≤ _ from by decide), fun p np => ?_⟩⟩
      have hs2 : SqH b (upd H p (.tup [.ty "list", .ty "tuple"])) a xs := hs.same (Same.new np)
      have hl : ∀ {Q : Prop}, Q → (SqL K (upd H p (.tup [.ty "list", .ty "tuple"])) a xs ∨ SqT K (upd H p (.tup [.ty "list", .ty "tuple"])) a xs) := by
        intro _ _
        cases b with
        | true => exact .inr (SqT.of hs2)
        | false => exact .inl (SqL.of hs2)
      have cls : Paired ClsV [V.ty "list", V.ty "tuple"] [.type "list", .type "tuple"] := .cons (.ty _) (.cons (.ty _) .nil)
      have ans : ∃ t : Value, TyX K (upd H p (.tup [.ty "list", .ty "tuple"])) (.ref a) t ∧ PySem.W.kitAny K t [.type "list", .type "tuple"] = some true := by
        cases b with
        | true => exact ⟨_, .base (.tup hs2), kit_any (by decide +kernel) (by decide +kernel)⟩
        | false => exact ⟨_, .base (.lst hs2), kit_any1 (by decide +kernel)⟩
      obtain ⟨t, ht, hk⟩ := ans
      refine ⟨_, _, _, t, _, true, rfl, upd_same, cls, ht, hk, ?_⟩
      refine ⟨_, rfl, _, rfl, _, rfl, ?_⟩
      refine ⟨a, xs, rfl, hl trivial, ?_⟩
      refine ⟨_, _, rfl, rfl, _, rfl, ?_⟩
      have k := k _ (Same.new (o := .tup [.ty "list", .ty "tuple"]) np)
      refine if_dec (fun c => ?_) fun c => ?_
      · walk_at "rd"
        have e : decide (lo ≤ (xs.length : Int) ∧ (xs.length : Int) ≤ hi) = decide ((xs.length : Int) ≤ hi) := by
          rw [decide_eq_decide]
          exact ⟨fun z => z.2, fun z => ⟨c, z⟩⟩
        rw [e] at k
        exact k
      · rw [decide_eq_false fun z => c z.1] at k
        exact k
    · refine ⟨_, rfl, ⟨Evl.sz_of (show (2 : Nat) ≤ _ from by decide), fun p np => ?_⟩⟩
      have k := k _ (Same.new (o := .tup [.ty "list", .ty "tuple"]) np)
      have ht2 : tyS (upd H p (.tup [.ty "list", .ty "tuple"])) x = some t := by
        cases x with
        | ref a =>
          have ne : a ≠ p := fun z => by
            have z2 : kindO (H a) = some t := ht
            rw [z, np] at z2
            cases z2
          show kindO (upd H p (.tup [.ty "list", .ty "tuple"]) a) = some t
          rw [upd_ne ne]
          exact ht
        | _ => exact ht
      have cls : Paired ClsV [V.ty "list", V.ty "tuple"] [.type "list", .type "tuple"] := .cons (.ty _) (.cons (.ty _) .nil)
      have hk2 : ∀ t ∈ ["int", "str", "NoneType", "dict"], kitB t "list" = some false ∧ kitB t "tuple" = some false := by decide +kernel
      exact ⟨_, _, _, _, _, false, rfl, upd_same, cls, tyS_ok ht2, kit_any (hk2 t hk).1 (hk2 t hk).2, _, rfl, k⟩
end
end K12

set_option Elab.async false
set_option linter.all false
set_option maxRecDepth 100000
set_option maxHeartbeats 4000000
/-! The program's checks. -/
namespace K12
open PySem PySem.Spec PyProof.Rows L2 K12L
local macro_rules | `(tactic| walk_at "rd") => `(tactic| repeat (first | (with_reducible exact trivial) | refine ⟨_, rfl, ?_⟩ | refine ⟨_, _, rfl, rfl, ?_⟩ | refine Or.inl ⟨_, rfl, ?_⟩ | refine ⟨Or.inr ⟨by decide, by decide⟩, ?_⟩ | refine ⟨Or.inl ⟨by omega, by omega⟩, ?_⟩ | refine ⟨⟨by decide, by decide +kernel⟩, ?_⟩ | refine ⟨(show (0 : Int) < _ from by decide), ?_⟩ | refine ⟨(show (0 : Int) < _ from by omega), ?_⟩ | refine ⟨cdivW (by omega) (by omega), ?_⟩ | refine ⟨_, _, _, _, rfl, rfl, SqL.of (by first | assumption | exact upd_same), by rfl, ?_⟩ | refine ⟨_, _, _, _, rfl, rfl, (by first | assumption | exact upd_same), by rfl, ?_⟩ | refine ⟨_, _, rfl, Or.inl (SqL.of (by first | assumption | exact upd_same)), ?_⟩ | refine ⟨Or.inl ⟨rfl, _, SqL.of (by first | assumption | exact upd_same)⟩, ?_⟩ | refine ⟨_, _, _, rfl, rfl, (by first | assumption | exact upd_same), (Evl.sz_lt (by first | omega | (simp only [List.length_map]; omega))), ?_⟩ | refine ⟨rfl, ?_⟩))
/-- where a class of the program stands -/
abbrev cC (K : PySem.W.Frag) (x : Str) : Addr := He.ga K x
abbrev cI (K : PySem.W.Frag) (x : Str) : Addr := He.ma K (He.ga K x) "__init__"
structure Ers (P : Program) (K : PySem.W.Frag) (mg : Str → Option Value) : Prop where
  nosuper : (P.main.scope.names.lookup ("super" : Str)).isSome = false
  glo : ∀ x : Str, x ∈ (["PurseError", "BadPool", "BadPeople", "BadWish", "BadChoice", "BadLost"] : List Str) → mg x = some (.ref (cC K x))
  base : K12X.BaseTxt K (cC K "PurseError")
  pool : K12X.SupTxt P K (cC K "BadPool") (cI K "BadPool") "BadPool.__init__" (inClass (top 2) 0)
  wish : K12X.SupTxt P K (cC K "BadWish") (cI K "BadWish") "BadWish.__init__" (inClass (top 4) 0)
  choice : K12X.OwnTxt K (cC K "BadChoice") (cI K "BadChoice") "BadChoice.__init__" (inClass (top 5) 0)
  lost : K12X.OwnTxt K (cC K "BadLost") (cI K "BadLost") "BadLost.__init__" (inClass (top 6) 0)
  noPlace : PySem.W.findIn K (.ref (cC K "BadChoice")) "place" = some none
  people : PySem.W.excIn K (cC K "BadPeople") He.veBase "ValueError.__new__" = true ∧ PySem.W.keepIn K (.ref (cC K "BadPeople")) = true ∧ PySem.W.subIn K (.ref (cC K "BadPeople")) (.type "BaseException") = some true ∧ PySem.W.typeIn K (.ref (cC K "BadPeople")) = some (.type "type")
  xPool : XfC K (cC K "BadPool")
  xWish : XfC K (cC K "BadWish")
  xChoice : XfC K (cC K "BadChoice")
  exm : ∀ x : Str, x ∈ (["BadPool", "BadPeople", "BadWish", "BadChoice", "BadLost"] : List Str) → ∀ y : Str, y ∈ (["BadPool", "BadPeople", "BadWish", "BadChoice", "BadLost"] : List Str) → PySem.W.exmOne K (.ref (cC K x)) (.ref (cC K y)) = some (decide (x = y))
/-- a pool that is refused, at the place, for what -/
inductive PoolBad (H : Hp) : V → Int → Str → Prop
  | kind {x : V} {t : String} (h : tyS H x = some t) (ht : t ∈ ["int", "str", "NoneType", "dict"]) : PoolBad H x 0 "many"
  | many {a : Addr} {b : Bool} {xs : List V} (h : SqH b H a xs) (hl : 12 < xs.length) : PoolBad H (.ref a) 0 "many"
  | coin {a : Addr} {b : Bool} {xs : List V} {i : Nat} {y : V} {t : String} (h : SqH b H a xs) (hl : xs.length ≤ 12) (ok : ∀ j z, j < i → xs[j]? = some z → ∃ n : Int, z = .int n ∧ 1 ≤ n ∧ n ≤ 1000000000) (hy : xs[i]? = some y) (ht : tyS H y = some t) (no : wholeB 1 1000000000 y = false) : PoolBad H (.ref a) i "coin"
theorem kindO_same {H H' : Hp} {a : Addr} {t : String} (s : Same H H') (h : kindO (H a) = some t) : kindO (H' a) = some t := by
  rcases kindO_cases h with ⟨xs, e, rfl⟩ | ⟨xs, e, rfl⟩ | ⟨xs, e, rfl⟩ <;> (rw [s _ _ e]; rfl)
theorem tyS_same {H H' : Hp} {x : V} {t : String} (s : Same H H') (h : tyS H x = some t) : tyS H' x = some t := by
  cases x with
  | ref a => exact kindO_same s h
  | _ => exact h
theorem wholeB_int {lo hi n : Int} (h1 : lo ≤ n) (h2 : n ≤ hi) : wholeB lo hi (.int n) = true := decide_eq_true ⟨h1, h2⟩
def xdPW (what : Str) (place : Int) : HO := .xd [("what", .str what), ("place", .int place)]
section
variable {P : Program} {w : World} {K : PySem.W.Frag} {mg : Str → Option Value} {base : Heap}
def Raised (E : XK) (K : PySem.W.Frag) (H : Hp) (C what : Str) (place : Int) : Prop := ∀ (d : Addr) (H' : Hp), H d = none → Same H H' → H' d = some (xdPW what place) → E (.ref (cC K C)) (some d) H'
def spPool (K : PySem.W.Frag) : Sp := fun vs H Q E => ∃ x : V, vs = [x] ∧
  ((∃ (a : Addr) (b : Bool) (ns : List Int), x = .ref a ∧ SqH b H a (ns.map V.int) ∧ ns.length ≤ 12 ∧ (∀ c ∈ ns, 1 ≤ c ∧ c ≤ 1000000000) ∧ ∀ (p : Addr) (H' : Hp) (ns' : List Int), H p = none → Same H H' → ns'.Perm ns → ns'.Pairwise (· ≤ ·) → H' p = some (.tup (ns'.map V.int)) → Q (.ref p) H') ∨
   (∃ pl what, PoolBad H x pl what ∧ Raised E K H "BadPool" what pl))
theorem h_check_pool (T : Txt K mg) (R : Ers P K mg) : Has P w K mg base (L2.CX P w) 3 "check_pool" P_check_pool (spPool K) := by
  obtain ⟨f, fd, g, F⟩ := T.dfn ("check_pool", 14) (by decide +kernel)
  have h_is_sequence := h_is_sequence (P := P) (w := w) (base := base) T
  have h_is_whole := h_is_whole (P := P) (w := w) (base := base) T
  have gC := R.glo "BadPool" (by decide)
  have gS := T.free "super" (by decide)
  refine ⟨f, fd, g, F.kp, F.bindsN (fun _ _ _ _ _ _ us hl => match us, hl with | [_], _ => rfl), F.ok sc_check_pool (fun vs H Q E h => ?_) fun cdv A outer s H vs Q E hr h => ?_⟩
  · obtain ⟨x, rfl, _⟩ := h
    rfl
  · refine ⟨_, (pss_cons (ps_if (pt_not (pt_val (pe_has h_is_sequence hr (by decide) (pa_cons (pv 0) (pa_cons pe_int (pa_cons (pe_cst T.mostC) pa_nil))))))
    (pss_one (ps_raise rfl (takes_of rfl rfl rfl rfl) (pmk_pool R.pool R.nosuper gS gC hr rfl (pa_cons pe_int (pa_cons pe_str pa_nil)))))
    pss_nil)
  (pss_cons (ps_for (passes_of rfl) rfl (pi_enumQ rfl (T.free "enumerate" (by decide)) (pa_cons (pv 0) pa_nil)) (pg_tup rfl (pgs_cons (pg_name (i := 1) sc_check_pool.nd rfl (Or.inl rfl)) (pgs_cons (pg_name (i := 2) sc_check_pool.nd rfl (Or.inl rfl)) pgs_nil)))
    (pss_one (ps_if (pt_not (pt_val (pe_has h_is_whole hr (by decide) (pa_cons (pv 2) (pa_cons pe_int (pa_cons (pe_cst T.mostW) pa_nil))))))
      (pss_one (ps_raise rfl (takes_of rfl rfl rfl rfl) (pmk_pool R.pool R.nosuper gS gC hr rfl (pa_cons (pv 1) (pa_cons pe_str pa_nil)))))
      pss_nil)))
  (pss_one (ps_ret (pe_callTy call_tuple_of rfl (T.free "tuple" (by decide)) (by decide +kernel) (pa_cons (pe_callB cr_sortedQ rfl (T.free "sorted" (by decide)) (by decide +kernel) (pa_cons (pv 0) pa_nil)) pa_nil))))))
    , ?_⟩
    obtain ⟨x, rfl, k⟩ := h
    rcases k with ⟨a, b, ns, rfl, hs, hl, h1, k⟩ | ⟨pl, what, pb, k⟩
    · refine ⟨_, rfl, _, _, _, rfl, .inl ⟨a, b, _, rfl, hs, fun H1 s1 => ⟨_, rfl, ?_⟩⟩⟩
      rw [List.length_map, decide_eq_true (show (0 : Int) ≤ (ns.length : Int) ∧ (ns.length : Int) ≤ 12 by omega)]
      refine ⟨_, rfl, a, b, _, rfl, (hs.same s1).q, for_it (walk_enumQ b) (fun i σ H2 => ∃ x y, σ = [some (.ref a), x, y] ∧ Same H H2) ⟨none, none, rfl, s1⟩ (fun i σ H2 _ ⟨_, _, _, s2⟩ => (hs.same s2).q) ?_ ?_⟩
      · rintro i v σ H2 H3 hi ⟨x, y, rfl, s2⟩ ⟨T, z, u, rfl, hT, rfl, e1, e2⟩
        cases Option.some.inj e1
        obtain ⟨n, hn, rfl⟩ := at_map e2
        have hm := h1 n (List.mem_of_getElem? hn)
        refine ⟨_, _, rfl, SqT.of upd_same, rfl, _, _, rfl, _, _, rfl, rfl, ?_⟩
        refine ⟨_, rfl, _, _, _, _, rfl, rfl, _, rfl, ?_⟩
        rw [wholeB_int hm.1 hm.2]
        exact ⟨_, _, rfl, s2.trans (Same.new hT)⟩
      · rintro σ H2 ⟨x, y, rfl, s2⟩
        refine ⟨_, rfl, a, b, ns, rfl, (hs.same s2).q, by omega, fun ns' l p1 p2 hl => ?_⟩
        refine ⟨l, _, rfl, .inl ⟨SqL.of upd_same, fun q hq => ?_⟩⟩
        exact k q _ ns' ((s2.trans (Same.new hl)).free hq) ((s2.trans (Same.new hl)).trans (Same.new hq)) p1 p2 upd_same
    · cases pb with
      | kind ht hk =>
        refine ⟨_, rfl, _, _, _, rfl, .inr ⟨_, ht, hk, fun H1 s1 => ⟨_, rfl, _, _, rfl, fun d hd => ?_⟩⟩⟩
        exact k d _ (s1.free hd) (s1.trans (Same.new hd)) upd_same
      | @many a b xs hs hl =>
        refine ⟨_, rfl, _, _, _, rfl, .inl ⟨a, b, _, rfl, hs, fun H1 s1 => ⟨_, rfl, ?_⟩⟩⟩
        rw [decide_eq_false (show ¬ ((0 : Int) ≤ (xs.length : Int) ∧ (xs.length : Int) ≤ 12) by omega)]
        exact ⟨_, _, rfl, fun d hd => k d _ (s1.free hd) (s1.trans (Same.new hd)) upd_same⟩
      | @coin a b xs i y t hs hl ok hy ht no =>
        refine ⟨_, rfl, _, _, _, rfl, .inl ⟨a, b, _, rfl, hs, fun H1 s1 => ⟨_, rfl, ?_⟩⟩⟩
        rw [decide_eq_true (show (0 : Int) ≤ (xs.length : Int) ∧ (xs.length : Int) ≤ 12 by omega)]
        have hi0 : i < xs.length := (List.getElem?_eq_some_iff.mp hy).1
        refine ⟨_, rfl, a, b, _, rfl, (hs.same s1).q, for_it (walk_enumQ b) (fun j σ H2 => ∃ x y, σ = [some (.ref a), x, y] ∧ Same H H2 ∧ j ≤ i) ⟨none, none, rfl, s1, Nat.zero_le _⟩ (fun j σ H2 _ ⟨_, _, _, s2, _⟩ => (hs.same s2).q) ?_ ?_⟩
        · rintro j v σ H2 H3 hj ⟨x, y2, rfl, s2, hji⟩ ⟨T, z, u, rfl, hT, rfl, e1, e2⟩
          cases Option.some.inj e1
          refine ⟨_, _, rfl, SqT.of upd_same, rfl, _, _, rfl, _, _, rfl, rfl, ?_⟩
          by_cases hjn : j < i
          · obtain ⟨n, rfl, n1, n2⟩ := ok j u hjn e2
            refine ⟨_, rfl, _, _, _, _, rfl, rfl, _, rfl, ?_⟩
            rw [wholeB_int n1 n2]
            exact ⟨_, _, rfl, s2.trans (Same.new hT), hjn⟩
          · have ej : j = i := by omega
            subst ej
            have e2 : xs[j]? = some u := e2
            rw [hy] at e2
            cases Option.some.inj e2
            refine ⟨_, rfl, _, _, _, _, rfl, tyS_same (s2.trans (Same.new hT)) ht, _, rfl, ?_⟩
            rw [no]
            exact ⟨_, rfl, _, _, rfl, fun d hd => k d _ ((s2.trans (Same.new hT)).free hd) ((s2.trans (Same.new hT)).trans (Same.new hd)) upd_same⟩
        · rintro σ H2 ⟨x, y2, rfl, s2, hji⟩
          omega
/-- amounts that are refused -/
inductive AmtBad (H : Hp) : V → Int → Str → Prop
  | kind {x : V} {t : String} (h : tyS H x = some t) (ht : t ∈ ["int", "str", "NoneType", "dict"]) : AmtBad H x 0 "many"
  | many {a : Addr} {b : Bool} {xs : List V} (h : SqH b H a xs) (hl : xs.length < 1 ∨ 5 < xs.length) : AmtBad H (.ref a) 0 "many"
  | numb {a : Addr} {b : Bool} {xs : List V} {i : Nat} {y : V} {t : String} (h : SqH b H a xs) (h1 : 1 ≤ xs.length) (hl : xs.length ≤ 5) (ok : ∀ j z, j < i → xs[j]? = some z → ∃ n : Int, z = .int n ∧ 0 ≤ n ∧ n ≤ 12000000000) (hy : xs[i]? = some y) (ht : tyS H y = some t) (no : wholeB 0 12000000000 y = false) : AmtBad H (.ref a) i "number"
/-- whole amounts -/
def AmtOk (H : Hp) (x : V) (ns : List Int) : Prop := ∃ (a : Addr) (b : Bool), x = .ref a ∧ SqH b H a (ns.map V.int) ∧ 1 ≤ ns.length ∧ ns.length ≤ 5 ∧ ∀ c ∈ ns, 0 ≤ c ∧ c ≤ 12000000000
inductive WishBad (H : Hp) (total : Int) : V → Int → Str → Prop
  | amt {x : V} {i : Int} {y : Str} (h : AmtBad H x i y) : WishBad H total x i y
  | sum {x : V} {ns : List Int} (h : AmtOk H x ns) (no : ns.sum ≠ total) : WishBad H total x ns.length "sum"
def spAmounts (K : PySem.W.Frag) : Sp := fun vs H Q E => ∃ x : V, vs = [x] ∧
  ((∃ ns : List Int, AmtOk H x ns ∧ ∀ (p : Addr) (H' : Hp), Same H H' → H' p = some (.tup (ns.map V.int)) → Q (.ref p) H') ∨ (∃ pl what, AmtBad H x pl what ∧ Raised E K H "BadWish" what pl))
theorem h_checked_amounts (T : Txt K mg) (R : Ers P K mg) : Has P w K mg base (L2.CX P w) 3 "checked_amounts" P_checked_amounts (spAmounts K) := by
  obtain ⟨f, fd, g, F⟩ := T.dfn ("checked_amounts", 17) (by decide +kernel)
  have h_is_sequence := h_is_sequence (P := P) (w := w) (base := base) T
  have h_is_whole := h_is_whole (P := P) (w := w) (base := base) T
  have gC := R.glo "BadWish" (by decide)
  have gS := T.free "super" (by decide)
  refine ⟨f, fd, g, F.kp, F.bindsN (fun _ _ _ _ _ _ us hl => match us, hl with | [_], _ => rfl), F.ok sc_checked_amounts (fun vs H Q E h => ?_) fun cdv A outer s H vs Q E hr h => ?_⟩
  · obtain ⟨x, rfl, _⟩ := h
    rfl
  · refine ⟨_, (pss_cons (ps_if (pt_not (pt_val (pe_has h_is_sequence hr (by decide) (pa_cons (pv 0) (pa_cons pe_int (pa_cons (pe_cst T.mostP) pa_nil))))))
    (pss_one (ps_raise rfl (takes_of rfl rfl rfl rfl) (pmk_wish R.wish R.nosuper gS gC hr rfl (pa_cons pe_int (pa_cons pe_str pa_nil)))))
    pss_nil)
  (pss_cons (ps_for (passes_of rfl) rfl (pi_enumQ rfl (T.free "enumerate" (by decide)) (pa_cons (pv 0) pa_nil)) (pg_tup rfl (pgs_cons (pg_name (i := 1) sc_checked_amounts.nd rfl (Or.inl rfl)) (pgs_cons (pg_name (i := 2) sc_checked_amounts.nd rfl (Or.inl rfl)) pgs_nil)))
    (pss_one (ps_if (pt_not (pt_val (pe_has h_is_whole hr (by decide) (pa_cons (pv 2) (pa_cons pe_int (pa_cons (pe_cst T.mostA) pa_nil))))))
      (pss_one (ps_raise rfl (takes_of rfl rfl rfl rfl) (pmk_wish R.wish R.nosuper gS gC hr rfl (pa_cons (pv 1) (pa_cons pe_str pa_nil)))))
      pss_nil)))
  (pss_one (ps_ret (pe_callTy call_tuple_of rfl (T.free "tuple" (by decide)) (by decide +kernel) (pa_cons (pv 0) pa_nil))))))
    , ?_⟩
    obtain ⟨x, rfl, k⟩ := h
    rcases k with ⟨ns, ⟨a, b, rfl, hs, hl0, hl, h1⟩, k⟩ | ⟨pl, what, pb, k⟩
    · refine ⟨_, rfl, _, _, _, rfl, .inl ⟨a, b, _, rfl, hs, fun H1 s1 => ⟨_, rfl, ?_⟩⟩⟩
      rw [List.length_map, decide_eq_true (show (1 : Int) ≤ (ns.length : Int) ∧ (ns.length : Int) ≤ 5 by omega)]
      refine ⟨_, rfl, a, b, _, rfl, (hs.same s1).q, for_it (walk_enumQ b) (fun i σ H2 => ∃ x y, σ = [some (.ref a), x, y] ∧ Same H H2) ⟨none, none, rfl, s1⟩ (fun i σ H2 _ ⟨_, _, _, s2⟩ => (hs.same s2).q) ?_ ?_⟩
      · rintro i v σ H2 H3 hi ⟨x, y, rfl, s2⟩ ⟨T, z, u, rfl, hT, rfl, e1, e2⟩
        cases Option.some.inj e1
        obtain ⟨n, hn, rfl⟩ := at_map e2
        have hm := h1 n (List.mem_of_getElem? hn)
        refine ⟨_, _, rfl, SqT.of upd_same, rfl, _, _, rfl, _, _, rfl, rfl, ?_⟩
        refine ⟨_, rfl, _, _, _, _, rfl, rfl, _, rfl, ?_⟩
        rw [wholeB_int hm.1 hm.2]
        exact ⟨_, _, rfl, s2.trans (Same.new hT)⟩
      · rintro σ H2 ⟨x, y, rfl, s2⟩
        cases b with
        | true => exact ⟨_, rfl, a, _, rfl, .inr ⟨SqT.of (hs.same s2), k a _ s2 (hs.same s2)⟩⟩
        | false => exact ⟨_, rfl, a, _, rfl, .inl ⟨SqL.of (hs.same s2), fun q hq => k q _ (s2.trans (Same.new hq)) upd_same⟩⟩
    · cases pb with
      | kind ht hk =>
        refine ⟨_, rfl, _, _, _, rfl, .inr ⟨_, ht, hk, fun H1 s1 => ⟨_, rfl, _, _, rfl, fun d hd => ?_⟩⟩⟩
        exact k d _ (s1.free hd) (s1.trans (Same.new hd)) upd_same
      | @many a b xs hs hl =>
        refine ⟨_, rfl, _, _, _, rfl, .inl ⟨a, b, _, rfl, hs, fun H1 s1 => ⟨_, rfl, ?_⟩⟩⟩
        rw [decide_eq_false (show ¬ ((1 : Int) ≤ (xs.length : Int) ∧ (xs.length : Int) ≤ 5) by omega)]
        exact ⟨_, _, rfl, fun d hd => k d _ (s1.free hd) (s1.trans (Same.new hd)) upd_same⟩
      | @numb a b xs i y t hs hl0 hl ok hy ht no =>
        refine ⟨_, rfl, _, _, _, rfl, .inl ⟨a, b, _, rfl, hs, fun H1 s1 => ⟨_, rfl, ?_⟩⟩⟩
        rw [decide_eq_true (show (1 : Int) ≤ (xs.length : Int) ∧ (xs.length : Int) ≤ 5 by omega)]
        have hi0 : i < xs.length := (List.getElem?_eq_some_iff.mp hy).1
        refine ⟨_, rfl, a, b, _, rfl, (hs.same s1).q, for_it (walk_enumQ b) (fun j σ H2 => ∃ x y, σ = [some (.ref a), x, y] ∧ Same H H2 ∧ j ≤ i) ⟨none, none, rfl, s1, Nat.zero_le _⟩ (fun j σ H2 _ ⟨_, _, _, s2, _⟩ => (hs.same s2).q) ?_ ?_⟩
        · rintro j v σ H2 H3 hj ⟨x, y2, rfl, s2, hji⟩ ⟨T, z, u, rfl, hT, rfl, e1, e2⟩
          cases Option.some.inj e1
          refine ⟨_, _, rfl, SqT.of upd_same, rfl, _, _, rfl, _, _, rfl, rfl, ?_⟩
          by_cases hjn : j < i
          · obtain ⟨n, rfl, n1, n2⟩ := ok j u hjn e2
            refine ⟨_, rfl, _, _, _, _, rfl, rfl, _, rfl, ?_⟩
            rw [wholeB_int n1 n2]
            exact ⟨_, _, rfl, s2.trans (Same.new hT), hjn⟩
          · have ej : j = i := by omega
            subst ej
            have e2 : xs[j]? = some u := e2
            rw [hy] at e2
            cases Option.some.inj e2
            refine ⟨_, rfl, _, _, _, _, rfl, tyS_same (s2.trans (Same.new hT)) ht, _, rfl, ?_⟩
            rw [no]
            exact ⟨_, rfl, _, _, rfl, fun d hd => k d _ ((s2.trans (Same.new hT)).free hd) ((s2.trans (Same.new hT)).trans (Same.new hd)) upd_same⟩
        · rintro σ H2 ⟨x, y2, rfl, s2, hji⟩
          omega
def spWish (K : PySem.W.Frag) : Sp := fun vs H Q E => ∃ (x : V) (total : Int), vs = [x, .int total] ∧
  ((∃ ns : List Int, AmtOk H x ns ∧ ns.sum = total ∧ ∀ (p : Addr) (H' : Hp), Same H H' → H' p = some (.tup (ns.map V.int)) → Q (.ref p) H') ∨ (∃ pl what, WishBad H total x pl what ∧ Raised E K H "BadWish" what pl))
theorem h_check_wish (T : Txt K mg) (R : Ers P K mg) : Has P w K mg base (L2.CX P w) 4 "check_wish" P_check_wish (spWish K) := by
  obtain ⟨f, fd, g, F⟩ := T.dfn ("check_wish", 18) (by decide +kernel)
  have h_checked_amounts := h_checked_amounts (w := w) (base := base) T R
  have gC := R.glo "BadWish" (by decide)
  have gS := T.free "super" (by decide)
  refine ⟨f, fd, g, F.kp, F.bindsN (fun _ _ _ _ _ _ us hl => match us, hl with | [_, _], _ => rfl), F.ok sc_check_wish (fun vs H Q E h => ?_) fun cdv A outer s H vs Q E hr h => ?_⟩
  · obtain ⟨x, t, rfl, _⟩ := h
    rfl
  · refine ⟨_, (pss_cons (ps_set (i := 2) sc_check_wish.nd rfl (Or.inl rfl) (pe_hasS h_checked_amounts hr (by decide) (takes_of rfl rfl rfl rfl) (pa_cons (pv 0) pa_nil)))
  (pss_cons (ps_if (pt_cmpR op_ne (pe_callB (cr_sumT rfl) rfl (T.free "sum" (by decide)) (by decide +kernel) (pa_cons (pv 2) pa_nil)) (pv 1) (nomark _))
    (pss_one (ps_raise rfl (takes_of rfl rfl rfl rfl) (pmk_wish R.wish R.nosuper gS gC hr rfl (pa_cons (pe_callB call_len_seq rfl (T.free "len" (by decide)) (by decide +kernel) (pa_cons (pv 2) pa_nil)) (pa_cons pe_str pa_nil)))))
    pss_nil)
  (pss_one (ps_ret (pv 2)))))
    , ?_⟩
    obtain ⟨x, total, rfl, k⟩ := h
    rcases k with ⟨ns, ha, hsum, k⟩ | ⟨pl, what, pb, k⟩
    · refine ⟨_, rfl, _, rfl, .inl ⟨ns, ha, fun p H1 s1 hp => ?_⟩⟩
      refine ⟨_, rfl, p, ns, rfl, SqT.of hp, _, rfl, rfl, _, rfl, ?_⟩
      rw [hsum, decide_eq_true rfl]
      exact ⟨_, rfl, k p H1 s1 hp⟩
    · cases pb with
      | amt h => exact ⟨_, rfl, _, rfl, .inr ⟨pl, what, h, k⟩⟩
      | @sum ns ha no =>
        refine ⟨_, rfl, _, rfl, .inl ⟨ns, ha, fun p H1 s1 hp => ?_⟩⟩
        refine ⟨_, rfl, p, ns, rfl, SqT.of hp, _, rfl, rfl, _, rfl, ?_⟩
        rw [decide_eq_false (fun z => no (by injection z))]
        refine ⟨_, rfl, p, _, rfl, .inr (SqT.of hp), _, _, rfl, fun d hd => ?_⟩
        rw [List.length_map]
        exact k d _ (s1.free hd) (s1.trans (Same.new hd)) upd_same
/-- a good pool -/
def PoolOk (H : Hp) (x : V) (ns : List Int) : Prop := ∃ (a : Addr) (b : Bool), x = .ref a ∧ SqH b H a (ns.map V.int) ∧ ns.length ≤ 12 ∧ ∀ c ∈ ns, 1 ≤ c ∧ c ≤ 1000000000
def spCouple (K : PySem.W.Frag) : Sp := fun vs H Q E => ∃ x y : V, vs = [x, y] ∧
  ((∃ pl what, PoolBad H x pl what ∧ Raised E K H "BadPool" what pl) ∨
   (∃ ns : List Int, PoolOk H x ns ∧ ((∃ pl what, WishBad H ns.sum y pl what ∧ Raised E K H "BadWish" what pl) ∨
     (∃ ms : List Int, AmtOk H y ms ∧ ms.sum = ns.sum ∧ ∀ (t p q : Addr) (H' : Hp) (ns' : List Int), Same H H' → ns'.Perm ns → ns'.Pairwise (· ≤ ·) → H' p = some (.tup (ns'.map V.int)) → H' q = some (.tup (ms.map V.int)) → H' t = some (.tup [.ref p, .ref q]) → Q (.ref t) H'))))
theorem AmtOk.same {H H' : Hp} {x : V} {ns : List Int} (h : AmtOk H x ns) (s : Same H H') : AmtOk H' x ns := by
  obtain ⟨a, b, e, hs, r⟩ := h
  exact ⟨a, b, e, hs.same s, r⟩
theorem AmtBad.same {H H' : Hp} {x : V} {i : Int} {y : Str} (h : AmtBad H x i y) (s : Same H H') : AmtBad H' x i y := by
  cases h with
  | kind h ht => exact .kind (tyS_same s h) ht
  | many h hl => exact .many (h.same s) hl
  | numb h h1 hl ok hy ht no => exact .numb (h.same s) h1 hl ok hy (tyS_same s ht) no
theorem WishBad.same {H H' : Hp} {x : V} {t i : Int} {y : Str} (h : WishBad H t x i y) (s : Same H H') : WishBad H' t x i y := by
  cases h with
  | amt h => exact .amt (h.same s)
  | sum h no => exact .sum (h.same s) no
theorem Raised.same {E : XK} {H H' : Hp} {C what : Str} {i : Int} (h : Raised E K H C what i) (s : Same H H') : Raised E K H' C what i := fun d H2 hd s2 e => h d H2 (s.free hd) (s.trans s2) e
theorem sum_perm {a b : List Int} (h : a.Perm b) : a.sum = b.sum := by
  induction h with
  | nil => rfl
  | cons x _ ih => simp only [List.sum_cons, ih]
  | swap x y l => simp only [List.sum_cons]; omega
  | trans _ _ i1 i2 => exact i1.trans i2
theorem h_checked_couple (T : Txt K mg) (R : Ers P K mg) : Has P w K mg base (L2.CX P w) 5 "checked_couple" P_checked_couple (spCouple K) := by
  obtain ⟨f, fd, g, F⟩ := T.dfn ("checked_couple", 20) (by decide +kernel)
  have h_check_pool := h_check_pool (w := w) (base := base) T R
  have h_check_wish := h_check_wish (w := w) (base := base) T R
  refine ⟨f, fd, g, F.kp, F.bindsN (fun _ _ _ _ _ _ us hl => match us, hl with | [_, _], _ => rfl), F.ok sc_checked_couple (fun vs H Q E h => ?_) fun cdv A outer s H vs Q E hr h => ?_⟩
  · obtain ⟨x, t, rfl, _⟩ := h
    rfl
  · refine ⟨_, (pss_cons (ps_set (i := 2) sc_checked_couple.nd rfl (Or.inl rfl) (pe_hasS h_check_pool hr (by decide) (takes_of rfl rfl rfl rfl) (pa_cons (pv 0) pa_nil)))
  (pss_one (ps_ret (pe_tup (pa_cons (pv 2) (pa_cons (pe_hasS h_check_wish hr (by decide) (takes_of rfl rfl rfl rfl) (pa_cons (pv 1) (pa_cons (pe_callB (cr_sumT rfl) rfl (T.free "sum" (by decide)) (by decide +kernel) (pa_cons (pv 2) pa_nil)) pa_nil))) pa_nil))))))
    , ?_⟩
    obtain ⟨x, y, rfl, k⟩ := h
    rcases k with k | ⟨ns, ⟨a, b, rfl, hs, hl, h1⟩, k⟩
    · exact ⟨_, rfl, _, rfl, .inr k⟩
    · refine ⟨_, rfl, _, rfl, .inl ⟨a, b, ns, rfl, hs, hl, h1, fun p H1 ns' np s1 perm asc hp => ?_⟩⟩
      refine ⟨_, rfl, _, rfl, _, rfl, p, ns', rfl, SqT.of hp, _, _, rfl, ?_⟩
      rcases k with ⟨pl, what, wb, k⟩ | ⟨ms, ha, hsum, k⟩
      · refine .inr ⟨pl, what, ?_, k.same s1⟩
        rw [sum_perm perm]
        exact wb.same s1
      · refine .inl ⟨ms, ha.same s1, by rw [sum_perm perm]; exact hsum, fun q H2 s2 hq => ?_⟩
        refine ⟨Evl.sz_of (show (2 : Nat) ≤ _ from by decide), fun t nt => ?_⟩
        exact k t p q _ ns' ((s1.trans s2).trans (Same.new nt)) perm asc (Same.new nt _ _ (s2 _ _ hp)) (Same.new nt _ _ hq) upd_same
end
end K12

set_option Elab.async false
set_option linter.all false
set_option maxRecDepth 100000
set_option maxHeartbeats 4000000
/-! Stuck and Unserved made; people checked; who may take. -/
namespace K12
open PySem PySem.Spec PyProof.Rows L2 K12L
local macro_rules | `(tactic| walk_at "rd") => `(tactic| repeat (first | (with_reducible exact trivial) | refine ⟨_, rfl, ?_⟩ | refine ⟨_, _, rfl, rfl, ?_⟩ | refine Or.inl ⟨_, rfl, ?_⟩ | refine ⟨Or.inr ⟨by decide, by decide⟩, ?_⟩ | refine ⟨Or.inl ⟨by omega, by omega⟩, ?_⟩ | refine ⟨⟨by decide, by decide +kernel⟩, ?_⟩ | refine ⟨(show (0 : Int) < _ from by decide), ?_⟩ | refine ⟨(show (0 : Int) < _ from by omega), ?_⟩ | refine ⟨cdivW (by omega) (by omega), ?_⟩ | refine ⟨_, _, _, _, rfl, rfl, SqL.of (by first | assumption | exact upd_same), by rfl, ?_⟩ | refine ⟨_, _, _, _, rfl, rfl, (by first | assumption | exact upd_same), by rfl, ?_⟩ | refine ⟨_, _, rfl, Or.inl (SqL.of (by first | assumption | exact upd_same)), ?_⟩ | refine ⟨Or.inl ⟨rfl, _, SqL.of (by first | assumption | exact upd_same)⟩, ?_⟩ | refine ⟨_, _, _, rfl, rfl, (by first | assumption | exact upd_same), (Evl.sz_lt (by first | omega | (simp only [List.length_map]; omega))), ?_⟩ | refine ⟨rfl, ?_⟩))
structure Ct (K : PySem.W.Frag) (mg : Str → Option Value) (x f1 f2 : Str) (st : Stmt) : Prop where
  glo : mg x = some (.ref (cC K x))
  cl : Cls K (cC K x)
  n1 : NoAttr K (cC K x) f1
  n2 : NoAttr K (cC K x) f2
  mkr : Mk K (cC K x) (cI K x)
  fn : ∃ fd, FunD K "__init__" (x ++ ".__init__") (defArgs st) (defBody st) (defScope st) [] [] (cI K x) fd
structure Cts (K : PySem.W.Frag) (mg : Str → Option Value) : Prop where
  stuck : Ct K mg "Stuck" "coin" "lacks" (inClass (top 23) 0)
  uns : Ct K mg "Unserved" "place" "wish" (inClass (top 27) 0)
  ins : C8.InsC K (cC K "Stuck")
theorem sc_stuck : FnScope ["self", "coin", "lacks"] ["self", "coin", "lacks"] (defScope (inClass (top 23) 0)) := ⟨rfl, rfl, rfl, by decide +kernel, rfl, by decide +kernel, by decide +kernel⟩
theorem sc_uns : FnScope ["self", "place", "wish"] ["self", "place", "wish"] (defScope (inClass (top 27) 0)) := ⟨rfl, rfl, rfl, by decide +kernel, rfl, by decide +kernel, by decide +kernel⟩
def spInit (C : Addr) (f1 f2 : Str) : Sp := fun vs H Q _ => ∃ (x dx : Addr) (v1 v2 : V), vs = [.ref x, v1, v2] ∧ H x = some (.ins C dx []) ∧ Q .non (upd (upd H x (.ins C dx [(f1, v1)])) x (.ins C dx [(f1, v1), (f2, v2)]))
section
variable {P : Program} {w : World} {K : PySem.W.Frag} {mg : Str → Option Value} {base : Heap}
/-- C(a, b) -/
def HasC (P : Program) (w : World) (K : PySem.W.Frag) (mg : Str → Option Value) (base : Heap) (x f1 f2 : Str) : Prop := ∃ fd, mg x = some (.ref (cC K x)) ∧ Mk K (cC K x) (cI K x) ∧ Binds K fd ["self", f1, f2] [] ∧ FnOk P w K mg base CX0 1 (cI K x) fd ["self", f1, f2] (spInit (cC K x) f1 f2)
theorem has_stuck (C : Ct K mg "Stuck" "coin" "lacks" (inClass (top 23) 0)) : HasC P w K mg base "Stuck" "coin" "lacks" := by
  obtain ⟨fd, F⟩ := C.fn
  refine ⟨fd, C.glo, C.mkr, F.bindsN (fun _ _ _ _ _ _ us hl => match us, hl with | [_, _, _], _ => rfl), F.ok sc_stuck (fun vs H Q E h => ?_) fun cdv A outer s H vs Q E hr h => ?_⟩
  · obtain ⟨x, dx, v1, v2, rfl, _⟩ := h
    rfl
  · obtain ⟨x, dx, v1, v2, rfl, hx, k⟩ := h
    refine ⟨_, PSs.nox (pss_cons (ps_fld (pv 0) (pv 1) rfl) (pss_one (ps_fld (pv 0) (pv 2) rfl))), ?_⟩
    exact ⟨_, rfl, _, rfl, x, _, dx, _, rfl, hx, C.cl, C.n1, by decide, _, rfl, _, rfl, x, _, dx, _, rfl, upd_same, C.cl, C.n2, (show (1 : Nat) < 1000 by decide), k⟩
theorem has_uns (C : Ct K mg "Unserved" "place" "wish" (inClass (top 27) 0)) : HasC P w K mg base "Unserved" "place" "wish" := by
  obtain ⟨fd, F⟩ := C.fn
  refine ⟨fd, C.glo, C.mkr, F.bindsN (fun _ _ _ _ _ _ us hl => match us, hl with | [_, _, _], _ => rfl), F.ok sc_uns (fun vs H Q E h => ?_) fun cdv A outer s H vs Q E hr h => ?_⟩
  · obtain ⟨x, dx, v1, v2, rfl, _⟩ := h
    rfl
  · obtain ⟨x, dx, v1, v2, rfl, hx, k⟩ := h
    refine ⟨_, PSs.nox (pss_cons (ps_fld (pv 0) (pv 1) rfl) (pss_one (ps_fld (pv 0) (pv 2) rfl))), ?_⟩
    exact ⟨_, rfl, _, rfl, x, _, dx, _, rfl, hx, C.cl, C.n1, by decide, _, rfl, _, rfl, x, _, dx, _, rfl, upd_same, C.cl, C.n2, (show (1 : Nat) < 1000 by decide), k⟩
theorem pe_mk2 {X : Cx} {x f1 f2 : Str} {j : Nat} {e : Expr} {es : List Expr} {t : TA} {p pos : Pos} (h : HasC X.prog X.w X.K X.mg X.base x f1 f2) (hr : Room j X.A) (hk : 2 ≤ j) (ha : PA X (e :: es) t) (hg : Gl X x := by rfl) (hdb : (x == ("__debug__" : Str)) = false := by decide)
    (he : starEach (e :: es) X.env = (false, eval e X.env) :: starEach es X.env := by rfl) (hpl : (backTo pos (starEach es X.env)).any (·.1) = false := by rfl) :
    PE X (.Call (.Name x p) (e :: es) [] pos) (tMake (cC X.K x) (spInit (cC X.K x) f1 f2) [] E0 t) := by
  obtain ⟨fd, g, M, b, F⟩ := h
  exact pe_make M F (hr.mono hk) hg g b .nil pass0 ha hdb he hpl
/-- who may take a coin -/
def person (x : V) (c : Int) (ls : List Int) : Option Nat := match x with
  | .int n => if 0 ≤ n ∧ n < (ls.length : Int) ∧ c ≤ ls.getD n.toNat 0 then some n.toNat else none
  | _ => none
def spMay (K : PySem.W.Frag) : Sp := fun vs H Q _ => ∃ (x : V) (c : Int) (l : Addr) (ls : List Int) (t : String), vs = [x, .int c, .ref l] ∧ tyS H x = some t ∧ H l = some (.lst (ls.map V.int)) ∧ Q (.bl (person x c ls).isSome) H
theorem h_may_take (T : Txt K mg) : Has P w K mg base CX0 1 "may_take" P_may_take (spMay K) := by
  obtain ⟨f, fd, g, F⟩ := T.dfn ("may_take", 21) (by decide +kernel)
  refine ⟨f, fd, g, F.kp, F.bindsN (fun _ _ _ _ _ _ us hl => match us, hl with | [_, _, _], _ => rfl), F.ok sc_may_take (fun vs H Q E h => ?_) fun cdv A outer s H vs Q E hr h => ?_⟩
  · obtain ⟨x, c, l, ls, t, rfl, _⟩ := h
    rfl
  · obtain ⟨x, c, l, ls, t, rfl, ht, hl, k⟩ := h
    refine ⟨_, PSs.nox (pss_cons (ps_if (PW.pt (pw_or (pt_not (pt_val (pe_callB call_isi rfl (T.free "isinstance" (by decide)) (by decide +kernel) (pa_cons (pv 0) (pa_cons (pe_bltn (v := .ty "int") rfl (T.free "int" (by decide)) (by decide +kernel) rfl) pa_nil))))) (pw_or (pt_val (pe_callB call_isi rfl (T.free "isinstance" (by decide)) (by decide +kernel) (pa_cons (pv 0) (pa_cons (pe_bltn (v := .ty "bool") rfl (T.free "bool" (by decide)) (by decide +kernel) rfl) pa_nil)))) (pw_or1 (pt_not (pt_chain op_le op_lt pe_int (pv 0) (pe_callB call_len_seq rfl (T.free "len" (by decide)) (by decide +kernel) (pa_cons (pv 2) pa_nil))))))))
    (pss_one (ps_ret pe_bl))
    pss_nil)
  (pss_one (ps_ret (pe_cmpR op_ge (pe_ix ix_list (pv 2) (pv 0) (fun _ _ => rfl)) (pv 1) (nomark _)))))
    , ?_⟩
    have tx := tyS_ok (K := K) ht
    rcases tyS_cases ht with ⟨n, rfl⟩ | ⟨b, rfl⟩ | ⟨hk, hw⟩
    · cases Option.some.inj ht
      refine ⟨_, rfl, _, _, _, _, true, rfl, .ty _, tx, kit_ty (by decide +kernel), _, rfl, ?_⟩
      refine ⟨_, rfl, _, _, _, _, false, rfl, .ty _, tx, kit_ty (by decide +kernel), _, rfl, ?_⟩
      refine ⟨_, rfl, _, _, rfl, rfl, _, rfl, ?_⟩
      refine if_dec (fun c0 => ?_) fun c0 => ?_
      · refine ⟨_, rfl, l, _, rfl, .inl (SqL.of hl), _, _, rfl, rfl, ?_⟩
        refine ⟨_, rfl, ?_⟩
        rw [List.length_map]
        by_cases c1 : n < (ls.length : Int)
        · rw [decide_eq_true c1]
          obtain ⟨m, rfl⟩ := Int.eq_ofNat_of_zero_le c0
          have hm : m < ls.length := by omega
          refine ⟨_, rfl, _, rfl, _, _, _, _, rfl, rfl, SqL.of hl, atI_nat (v := V.int ls[m]) (by rw [List.getElem?_map, List.getElem?_eq_getElem hm] <;> rfl), _, rfl, _, _, rfl, rfl, ?_⟩
          have e : (person (.int (m : Int)) c ls).isSome = decide (c ≤ ls[m]) := by
            unfold person
            simp only [Int.toNat_natCast, Hand.getD_lt hm]
            by_cases c2 : c ≤ ls[m]
            · rw [if_pos ⟨by omega, c1, c2⟩, decide_eq_true c2] <;> rfl
            · rw [if_neg (fun z => c2 z.2.2), decide_eq_false c2] <;> rfl
          rw [e] at k
          exact k
        · rw [decide_eq_false c1]
          have e : person (.int n) c ls = none := if_neg fun z => c1 z.2.1
          rw [e] at k
          exact k
      · have e : person (.int n) c ls = none := if_neg fun z => c0 z.1
        rw [e] at k
        exact ⟨_, rfl, k⟩
    · cases Option.some.inj ht
      refine ⟨_, rfl, _, _, _, _, true, rfl, .ty _, tx, kit_ty (by decide +kernel), _, rfl, ?_⟩
      exact ⟨_, rfl, _, _, _, _, true, rfl, .ty _, tx, kit_ty (by decide +kernel), _, rfl, k⟩
    · have e : person x c ls = none := by
        cases x with
        | int n =>
          cases Option.some.inj ht
          exact absurd hk (by decide)
        | _ => rfl
      rw [e] at k
      exact ⟨_, rfl, _, _, _, _, false, rfl, .ty _, tx, kit_ty (kit_no hk).1, _, rfl, k⟩
/-- check_people(people), refused -/
def spPeo (K : PySem.W.Frag) : Sp := fun vs H Q E => ∃ (x : V) (t : String), vs = [x, .int 1] ∧ tyS H x = some t ∧ wholeB 1 5 x = false ∧ E (.ref (cC K "BadPeople")) none H
theorem h_check_people (T : Txt K mg) (R : Ers P K mg) : ∃ f fd ds, mg "check_people" = some (.ref f) ∧ PySem.W.keepIn K (.ref f) = true ∧ Vals [V.int 1] ds ∧ Binds K fd P_check_people ds ∧ FnOk P w K mg base (L2.CX P w) 2 f fd P_check_people (spPeo K) := by
  obtain ⟨f, fd, g, F⟩ := T.people
  have h_is_whole := h_is_whole (P := P) (w := w) (base := base) T
  have gC := R.glo "BadPeople" (by decide)
  obtain ⟨ds, hv, hb⟩ := F.binds1 (ps := P_check_people) 1 0 (by simp) rfl (fun T kV doc pm an cdv ct us its hu hi => match us, its, hu, hi with | [_], [_], _, _ => ⟨_, rfl, rfl⟩)
  refine ⟨f, fd, ds, g, F.kp, hv, hb, F.ok sc_check_people (fun vs H Q E h => ?_) fun cdv A outer s H vs Q E hr h => ?_⟩
  · obtain ⟨x, t, rfl, _⟩ := h
    rfl
  · obtain ⟨x, t, rfl, ht, hw, k⟩ := h
    refine ⟨_, (pss_cons (ps_if (pt_not (pt_val (pe_has h_is_whole hr (by decide) (pa_cons (pv 0) (pa_cons (pv 1) (pa_cons (pe_cst T.mostP) pa_nil))))))
    (pss_one (ps_raise rfl (takes_of rfl rfl rfl rfl) (pmk_own0 PySem.F.excBase_ValueError R.people.1 gC R.people.2.1 (raises_own R.people.2.2.1 R.people.2.2.2) rfl)))
    pss_nil)
  (pss_one (ps_ret (pv 0))))
    , ?_⟩
    refine ⟨_, rfl, _, rfl, _, _, _, _, rfl, ht, _, rfl, ?_⟩
    rw [hw]
    exact k
def spUns (K : PySem.W.Frag) : Sp := fun vs H Q E => ∃ x y z : V, vs = [x, y, z] ∧
  ((∃ pl what, PoolBad H x pl what ∧ Raised E K H "BadPool" what pl) ∨ (∃ (ns : List Int) (t : String), PoolOk H x ns ∧ tyS H y = some t ∧ wholeB 1 5 y = false ∧ ∀ H', Same H H' → E (.ref (cC K "BadPeople")) none H'))
theorem h_unserved_fault (T : Txt K mg) (R : Ers P K mg) : Has P w K mg base (L2.CX P w) 4 "unserved_fault" P_unserved_fault (spUns K) := by
  obtain ⟨f, fd, g, F⟩ := T.dfn ("unserved_fault", 26) (by decide +kernel)
  have h_check_pool := h_check_pool (w := w) (base := base) T R
  obtain ⟨f2, fd2, ds, g2, kp2, hv2, hb2, F2⟩ := h_check_people (w := w) (base := base) T R
  refine ⟨f, fd, g, F.kp, F.bindsN (fun _ _ _ _ _ _ us hl => match us, hl with | [_, _, _], _ => rfl), F.ok sc_unserved_fault (fun vs H Q E h => ?_) fun cdv A outer s H vs Q E hr h => ?_⟩
  · obtain ⟨x, y, z, rfl, _⟩ := h
    rfl
  · obtain ⟨x, y, z, rfl, k⟩ := h
    refine ⟨_, pss_cons (ps_set (i := 3) sc_unserved_fault.nd rfl (Or.inl rfl) (pe_hasS h_check_pool hr (by decide) (takes_of rfl rfl rfl rfl) (pa_cons (pv 0) pa_nil)))
      (pss_cons (ps_expr (pe_callSD F2 (hr.mono (by decide)) rfl g2 kp2 hb2 hv2 (fun σ => passAt (takes_of rfl rfl rfl rfl) σ) (pa_cons (pv 1) pa_nil)))
      (pss_cons ps_never (pss_cons ps_never (pss_cons ps_never (pss_cons ps_never (pss_one ps_never)))))), ?_⟩
    rcases k with k | ⟨ns, t, ⟨a, b, rfl, hs, hl, h1⟩, ht, hw, k⟩
    · exact ⟨_, rfl, _, rfl, .inr k⟩
    · refine ⟨_, rfl, _, rfl, .inl ⟨a, b, ns, rfl, hs, hl, h1, fun p H1 ns' np s1 perm asc hp => ?_⟩⟩
      exact ⟨_, rfl, _, t, rfl, tyS_same s1 ht, hw, k H1 s1⟩
end
end K12

set_option Elab.async false
set_option linter.all false
set_option maxRecDepth 100000
set_option maxHeartbeats 8000000
/-! hand_out, told of a function that it is handed. -/
namespace K12
open PySem PySem.Spec PyProof.Rows L2 K12L Hand
local macro_rules | `(tactic| walk_at "rd") => `(tactic| repeat (first | (with_reducible exact trivial) | refine ⟨_, rfl, ?_⟩ | refine ⟨_, _, rfl, rfl, ?_⟩ | refine Or.inl ⟨_, rfl, ?_⟩ | refine ⟨Or.inr ⟨by decide, by decide⟩, ?_⟩ | refine ⟨Or.inl ⟨by omega, by omega⟩, ?_⟩ | refine ⟨⟨by decide, by decide +kernel⟩, ?_⟩ | refine ⟨(show (0 : Int) < _ from by decide), ?_⟩ | refine ⟨(show (0 : Int) < _ from by omega), ?_⟩ | refine ⟨cdivW (by omega) (by omega), ?_⟩ | refine ⟨_, _, _, _, rfl, rfl, SqL.of (by first | assumption | exact upd_same), by rfl, ?_⟩ | refine ⟨_, _, _, _, rfl, rfl, (by first | assumption | exact upd_same), by rfl, ?_⟩ | refine ⟨_, _, rfl, Or.inl (SqL.of (by first | assumption | exact upd_same)), ?_⟩ | refine ⟨Or.inl ⟨rfl, _, SqL.of (by first | assumption | exact upd_same)⟩, ?_⟩ | refine ⟨_, _, _, rfl, rfl, (by first | assumption | exact upd_same), (Evl.sz_lt (by first | omega | (simp only [List.length_map]; omega))), ?_⟩ | refine ⟨rfl, ?_⟩))
/-- what the function F at f, made where the state was s0, H0, does when it is called later -/
structure ChOk (P : Program) (w : World) (K : PySem.W.Frag) (mg : Str → Option Value) (base : Heap) (k : Nat) (f : Addr) (F : NdefX.NF) (sp : Sp) (s0 : Shared) (H0 : Hp) (fs : List Addr) : Prop where
  run : ∀ (A : Around) (outer : List Env) (s : Shared) (H : Hp) (us : List Value) (vs : List V) (Q : VK) (E : XK), Room k A → Env0 P w K mg base A outer s H → H f = some (NdefX.FnO f F) → H F.c = some (LamX.CodeO F.c F.qual) → Un fs [] H0 H s0.heap s.heap → Vals vs us → sp vs H Q E →
    codeAny (model P w) A (.call (.ref f) ⟨us, []⟩) (CR (L2.CX P w) outer P w H s Q E) s
/-- f(..), f the name of a parameter that holds such a function -/
theorem pe_choose {X : Cx} {k j i : Nat} {f : Addr} {F : NdefX.NF} {sp : Sp} {W : WX} {x : Str} {p pos : Pos} {e : Expr} {es : List Expr} {t : TA} (C : ChOk X.prog X.w X.K X.mg X.base k f F sp X.s_0 X.H_0 X.fs) (hex : X.ex = []) (hr : Room j X.A) (hk : k ≤ j) (tk : Takes X W) (hN : X.N[i]? = some x) (hv : Vis X.env.scope x) (ha : PA X (e :: es) t)
    (hd : (x == ("__debug__" : Str)) = false := by decide) (hcd : (x == ("__classdict__" : Str)) = false := by decide)
    (he : starEach (e :: es) X.env = (false, eval e X.env) :: starEach es X.env := by rfl) (hpl : (backTo pos (starEach es X.env)).any (·.1) = false := by rfl) :
    PE X (.Call (.Name x p) (e :: es) [] pos) (fun σ H Q => σ[i]? = some (some (.ref f)) ∧ H f = some (NdefX.FnO f F) ∧ t σ H fun vs H1 => H1 f = some (NdefX.FnO f F) ∧ H1 F.c = some (LamX.CodeO F.c F.qual) ∧ sp vs H1 Q (WE W σ)) := by
  refine ⟨fun pins s σ H Q I h => ?_⟩
  obtain ⟨hs, hf, ht⟩ := h
  refine wpAny_Call_Name_kw (thn ((pe_var (pos := p) hN hv hd hcd).run pins s σ H (fun v H1 => v = .ref f ∧ H1 = H) I ⟨.ref f, hs, rfl, rfl⟩) fun u s1 hh => ?_)
  obtain ⟨v, H1, I1, r1, rfl, eH⟩ := hh
  rw [eH] at I1
  obtain rfl : u = Value.ref f := r1
  refine PySem.W.callWith_F (first := []) (NdefX.fnAt_of I1 hf) (thn (ha.run pos pins s1 σ H _ I1 ht) fun us s2 hh => ?_) he hpl
  obtain ⟨vs, H2, I2, r, h1, h2, q⟩ := hh
  refine ⟨NdefX.fnAt_of I2 h1, ?_⟩
  have un : Un X.fs [] X.H_0 H2 X.s_0.heap s2.heap := by
    have b := I2.base
    rw [hex] at b
    exact b
  show wpAny _ _ (call (.ref f) us) _ _ _
  refine wpAny_call (codeAny_mono (C.run X.A X.stack s2 H2 us vs Q (WE W σ) (hr.mono hk) I2.env0 h1 h2 un r q) fun r s' hq => ?_)
  cases r with
  | error e => exact passAt tk σ pins H2 s2 e s' I2 hq
  | ok fl =>
    cases fl with
    | ret u => exact I2.after hq
    | next => exact False.elim hq
    | brk => exact False.elim hq
    | cont => exact False.elim hq
/-- what the caller keeps through hand_out: J calls H; the list at ac is the function's own -/
structure Keeps (K : PySem.W.Frag) (f : Addr) (F : NdefX.NF) (ac : Addr) (H0 : Hp) (J : List Call → Hp → Prop) : Prop where
  there : ∀ l H, J l H → ∃ o, H ac = some o
  same : ∀ l H H', J l H → Same H H' → J l H'
  lst : ∀ l H p xs ys, J l H → H p = some (.lst xs) → p ≠ ac → H0 p = none → J l (upd H p (.lst ys))
  fn : ∀ l H, J l H → H f = some (NdefX.FnO f F) ∧ H F.c = some (LamX.CodeO F.c F.qual)
  old : ∀ l H, J l H → ∀ b o, b ≠ ac → H0 b = some o → H b = some o
/-- the function's promise: its answer to a call hangs on the calls so far -/
def spCh (K : PySem.W.Frag) (ac : Addr) (J : List Call → Hp → Prop) (ch : List Call → Call → Option V) : Sp := fun vs H Q E => ∃ (c : Int) (t : Addr) (ls : List Int) (cs : List Call), vs = [.int c, .ref t] ∧ H t = some (.tup (ls.map V.int)) ∧ J cs H ∧
  (ls.all fun l => decide (l < c)) = false ∧ ls.length ≤ 5 ∧ cs.length ≤ 12 ∧
  (∀ (v : V) (ty : String) (H' : Hp), ch cs (c, ls) = some v → J (cs ++ [(c, ls)]) H' → Kh ac H H' → tyS H' v = some ty → Q v H') ∧
  (∀ H', ch cs (c, ls) = none → J (cs ++ [(c, ls)]) H' → Kh ac H H' → E (.ref (cC K "BadLost")) none H')
def ansOf (ch : List Call → Call → Option V) : List Call → Call → Option (Option Nat) := fun cs x => (ch cs x).map fun v => person v x.1 x.2
/-- the purses in the making -/
structure Pz (H0 H : Hp) (ac L G : Addr) (qs : List Addr) (ls : List Int) (ps : List (List Int)) : Prop where
  hL : H L = some (.lst (ls.map V.int))
  hG : H G = some (.lst (qs.map V.ref))
  nL : H0 L = none
  nG : H0 G = none
  LG : L ≠ G
  La : L ≠ ac
  Ga : G ≠ ac
  nd : qs.Nodup
  len : qs.length = ps.length
  q : ∀ (j : Nat) (q : Addr), qs[j]? = some q → H0 q = none ∧ q ≠ ac ∧ q ≠ L ∧ q ≠ G ∧ H q = some (.lst ((ps.getD j []).reverse.map V.int))
theorem Pz.same {H0 H H' : Hp} {ac L G : Addr} {qs : List Addr} {ls : List Int} {ps : List (List Int)} (z : Pz H0 H ac L G qs ls ps) (k : Same H H') : Pz H0 H' ac L G qs ls ps :=
  ⟨k _ _ z.hL, k _ _ z.hG, z.nL, z.nG, z.LG, z.La, z.Ga, z.nd, z.len, fun j q h => by
    obtain ⟨a, b, c, d, e⟩ := z.q j q h
    exact ⟨a, b, c, d, k _ _ e⟩⟩
theorem Pz.kh {H0 H H' : Hp} {ac L G : Addr} {qs : List Addr} {ls : List Int} {ps : List (List Int)} (z : Pz H0 H ac L G qs ls ps) (k : Kh ac H H') : Pz H0 H' ac L G qs ls ps :=
  ⟨k _ _ z.La z.hL, k _ _ z.Ga z.hG, z.nL, z.nG, z.LG, z.La, z.Ga, z.nd, z.len, fun j q h => by
    obtain ⟨a, b, c, d, e⟩ := z.q j q h
    exact ⟨a, b, c, d, k _ _ b e⟩⟩
theorem nodup_at {α : Type} : ∀ {l : List α} {i j : Nat} {x : α}, l.Nodup → l[i]? = some x → l[j]? = some x → i = j
  | [], i, j, x, _, h, _ => by simp at h
  | a :: l, 0, 0, x, _, _, _ => rfl
  | a :: l, 0, j + 1, x, nd, h1, h2 => by
    have e : a = x := by simpa using h1
    have m : x ∈ l := List.mem_of_getElem? (i := j) (by simpa using h2)
    exact absurd (e ▸ m) (List.nodup_cons.mp nd).1
  | a :: l, i + 1, 0, x, nd, h1, h2 => by
    have e : a = x := by simpa using h2
    have m : x ∈ l := List.mem_of_getElem? (i := i) (by simpa using h1)
    exact absurd (e ▸ m) (List.nodup_cons.mp nd).1
  | a :: l, i + 1, j + 1, x, nd, h1, h2 => congrArg Nat.succ (nodup_at (List.nodup_cons.mp nd).2 (by simpa using h1) (by simpa using h2))
theorem Pz.step {H0 H : Hp} {ac L G r : Addr} {qs : List Addr} {ls : List Int} {ps : List (List Int)} {j : Nat} {x c : Int} (z : Pz H0 H ac L G qs ls ps) (hr : qs[j]? = some r) :
    Pz H0 (upd (upd H L (.lst ((ls.map V.int).set j (.int x)))) r (.lst ((ps.getD j []).reverse.map V.int ++ [.int c]))) ac L G qs (ls.set j x) (ps.set j (c :: ps.getD j [])) := by
  obtain ⟨r1, r2, r3, r4, r5⟩ := z.q j r hr
  have hj : j < qs.length := (List.getElem?_eq_some_iff.mp hr).1
  refine ⟨?_, ?_, z.nL, z.nG, z.LG, z.La, z.Ga, z.nd, by rw [List.length_set]; exact z.len, fun i q hq => ?_⟩
  · rw [upd_ne (Ne.symm r3), upd_same, List.map_set]
  · rw [upd_ne (Ne.symm r4), upd_ne (Ne.symm z.LG)]
    exact z.hG
  · obtain ⟨q1, q2, q3, q4, q5⟩ := z.q i q hq
    refine ⟨q1, q2, q3, q4, ?_⟩
    have hi : i < qs.length := (List.getElem?_eq_some_iff.mp hq).1
    rw [getD_set _ _ _ _ _ (by rw [← z.len]; exact hj)]
    by_cases e : i = j
    · subst e
      rw [hr] at hq
      cases Option.some.inj hq
      rw [upd_same, if_pos rfl, List.reverse_cons, List.map_append]
      rfl
    · have ne : q ≠ r := fun zz => by
        rw [zz] at hq
        exact e (nodup_at z.nd hq hr)
      rw [upd_ne ne, upd_ne q3, if_neg e]
      exact q5
theorem person_some {v : V} {c : Int} {ls : List Int} {j : Nat} (h : person v c ls = some j) : v = .int (j : Int) ∧ j < ls.length ∧ c ≤ ls.getD j 0 := by
  unfold person at h
  cases v with
  | int n =>
    simp only at h
    split at h
    · rename_i z
      obtain ⟨z1, z2, z3⟩ := z
      cases Option.some.inj h
      obtain ⟨m, rfl⟩ := Int.eq_ofNat_of_zero_le z1
      rw [Int.toNat_natCast] at z3 ⊢
      exact ⟨rfl, by omega, z3⟩
    · cases h
  | _ => cases h
/-- what hand_out's end asks -/
def HPost (K : PySem.W.Frag) (J : List Call → Hp → Prop) (Q : VK) (E : XK) (r : HEnd × List Call) : Prop := match r.1 with
  | .split ps => ∀ (p : Addr) (qs : List Addr) (H' : Hp), J r.2 H' → H' p = some (.tup (qs.map V.ref)) → qs.length = ps.length → (∀ j q, qs[j]? = some q → H' q = some (.tup ((ps.getD j []).map V.int))) → Q (.ref p) H'
  | .stuck c ls => ∀ (x dx t : Addr) (H' : Hp), J r.2 H' → H' x = some (.ins (cC K "Stuck") dx [("coin", .int c), ("lacks", .ref t)]) → H' t = some (.tup (ls.map V.int)) → Q (.ref x) H'
  | .bad t => ∀ (d : Addr) (H' : Hp), J r.2 H' → H' d = some (.xd [("place", .int t)]) → E (.ref (cC K "BadChoice")) (some d) H'
  | .lost => ∀ H', J r.2 H' → E (.ref (cC K "BadLost")) none H'
section
variable {P : Program} {w : World} {K : PySem.W.Frag} {mg : Str → Option Value} {base : Heap}
def rTupOf (K : PySem.W.Frag) : List V → Hp → VK → Prop := fun xs H Q => ∃ p ys, xs = [V.ref p] ∧ ((SqL K H p ys ∧ ∀ l, H l = none → Q (.ref l) (upd H l (.tup ys))) ∨ (SqT K H p ys ∧ Q (.ref p) H))
/-- what hand_out asks where it is called well -/
def HandPre (K : PySem.W.Frag) (f : Addr) (F : NdefX.NF) (ac : Addr) (J : List Call → Hp → Prop) (ch : List Call → Call → Option V) (vs : List V) (H : Hp) (Q : VK) (E : XK) : Prop := ∃ (x y : V) (ns coins W : List Int), vs = [x, y, .ref f] ∧ PoolOk H x ns ∧ coins.Perm ns ∧ coins.Pairwise (· ≤ ·) ∧ AmtOk H y W ∧ W.sum = ns.sum ∧
  J [] H ∧ Keeps K f F ac H J ∧ HPost K J Q E (play (ansOf ch) coins W)
theorem hand_run (T : Txt K mg) (R : Ers P K mg) (C : Cts K mg) : ∃ f fd, mg "hand_out" = some (.ref f) ∧ PySem.W.keepIn K (.ref f) = true ∧ Binds K fd P_hand_out [] ∧
    ∀ (A : Around) (outer : List Env) (s : Shared) (H : Hp) (us : List Value) (vs : List V) (Q : VK) (E : XK) (k : Nat) (g : Addr) (G : NdefX.NF) (ac : Addr) (J : List Call → Hp → Prop) (ch : List Call → Call → Option V), Room (k + 7) A → Env0 P w K mg base A outer s H → BindsTo s fd ⟨us, []⟩ (P_hand_out.zip us) → Vals vs us →
      ChOk P w K mg base (k + 6) g G (spCh K ac J ch) s H (frs outer) → HandPre K g G ac J ch vs H Q E → codeAny (model P w) A (.call (.ref f) ⟨us, []⟩) (CR (L2.CX P w) outer P w H s Q E) s := by
  obtain ⟨f, fd, g, F⟩ := T.dfn ("hand_out", 22) (by decide +kernel)
  have h_checked_couple := h_checked_couple (w := w) (base := base) T R
  have h_may_take := h_may_take (P := P) (w := w) (base := base) T
  have hC := has_stuck (P := P) (w := w) (base := base) C.stuck
  have gC := R.glo "BadChoice" (by decide)
  have gP := R.glo "PurseError" (by decide)
  refine ⟨f, fd, g, F.kp, F.bindsN (fun _ _ _ _ _ _ us hl => match us, hl with | [_, _, _], _ => rfl), fun A outer s H us vs Q E k g G ac J ch hr e0 hb r Ch h => ?_⟩
  obtain ⟨oc, od, dV, kV, doc, pm, an, cdv, ct, osl, rfl, lk, hcd, _, _⟩ := F.ex
  have hl : vs.length = P_hand_out.length := by
    obtain ⟨x, y, ns, coins, W, rfl, _⟩ := h
    rfl
  refine LamX.run_ofS (k := k + 6) (N := N_hand_out) lk hcd sc_hand_out hr e0 hb r hl fun hr => ?_
  refine ⟨_, (pss_cons (ps_asg (pe_hasS h_checked_couple hr (by omega) (takes_of rfl rfl rfl rfl) (pa_cons (pv 0) (pa_cons (pv 1) pa_nil))) (pg_tup rfl (pgs_cons (pg_name (i := 3) sc_hand_out.nd rfl (Or.inl rfl)) (pgs_cons (pg_name (i := 4) sc_hand_out.nd rfl (Or.inl rfl)) pgs_nil))))
  (pss_cons (ps_set (i := 5) sc_hand_out.nd rfl (Or.inl rfl) (pe_callTy call_list_of rfl (T.free "list" (by decide)) (by decide +kernel) (pa_cons (pv 4) pa_nil)))
  (pss_cons (ps_setLc (i := 6) (own := [("amount", 10)]) (g := gName 10) (tt := tYes) rfl sc_hand_out.nd rfl rfl (sw_true rfl rfl rfl (by decide +kernel)) (pi_tup (pv 4)) (blkOk_by (N := N_hand_out) (sc := defScope s_hand_out) (by decide +kernel)) (fun _ _ _ _ _ => pg_name (i := 10) sc_hand_out.nd rfl (Or.inl rfl)) (fun _ _ _ _ _ => pts_nil) (fun _ _ _ _ _ => (pe_lst pa_nil)))
  (pss_cons (ps_for (passes_of rfl) rfl (pi_enumQ rfl (T.free "enumerate" (by decide)) (pa_cons (pe_revT (pv 3)) pa_nil)) (pg_tup rfl (pgs_cons (pg_name (i := 7) sc_hand_out.nd rfl (Or.inl rfl)) (pgs_cons (pg_name (i := 8) sc_hand_out.nd rfl (Or.inl rfl)) pgs_nil)))
    (pss_cons (ps_if (pt_cmpR op_lt (pe_callB (cr_max rfl) rfl (T.free "max" (by decide)) (by decide +kernel) (pa_cons (pv 5) pa_nil)) (pv 8) (nomark _))
      (pss_one (ps_ret (pe_mk2 hC hr (by omega) (pa_cons (pv 8) (pa_cons (pe_callTy call_tuple_of rfl (T.free "tuple" (by decide)) (by decide +kernel) (pa_cons (pv 5) pa_nil)) pa_nil)))))
      pss_nil)
    (pss_cons (ps_set (i := 9) sc_hand_out.nd rfl (Or.inl rfl) (pe_choose (i := 2) Ch rfl hr (by omega) (takes_of rfl rfl rfl rfl) rfl (Or.inl rfl) (pa_cons (pv 8) (pa_cons (pe_callTy call_tuple_of rfl (T.free "tuple" (by decide)) (by decide +kernel) (pa_cons (pv 5) pa_nil)) pa_nil))))
    (pss_cons (ps_if (pt_not (pt_val (pe_has h_may_take hr (by omega) (pa_cons (pv 9) (pa_cons (pv 8) (pa_cons (pv 5) pa_nil))))))
      (pss_one (ps_raise rfl (takes_of rfl rfl rfl rfl) (pmk_choice R.choice R.base gP R.noPlace gC hr rfl (pa_cons (pv 7) pa_nil))))
      pss_nil)
    (pss_cons (ps_augS (pv 5) (pv 9) pget_list (pv 8) ip_sub set_list)
    (pss_one (ps_expr (pe_bm PySem.F.plainAttrs_list PySem.F.slot_list_append PySem.F.type_list_append mt_append (pe_ix ix_list (pv 6) (pv 9) (fun _ _ => rfl)) (pa_cons (pv 8) pa_nil)))))))))
  (pss_one (ps_ret (pe_callTy call_tuple_of rfl (T.free "tuple" (by decide)) (by decide +kernel) (pa_cons (pe_lc (own := [("purse", 11)]) (g := gName 11) (tt := tYes) (te := tCB (rTupOf K) (tCons (tRevL K (tVar 11)) tNil)) rfl sc_hand_out.nd (pi_list (pv 6)) (blkOk_by (N := N_hand_out) (sc := defScope s_hand_out) (by decide +kernel)) (fun _ _ _ _ _ => pg_name (i := 11) sc_hand_out.nd rfl (Or.inl rfl)) (fun _ _ _ _ _ => pts_nil) (fun _ _ _ _ _ => (pe_callTy call_tuple_of rfl (T.free "tuple" (by decide)) (by decide +kernel) (pa_cons (pe_revL (pv 11)) pa_nil)))) pa_nil))))))))
    , ?_⟩
  obtain ⟨x, y, ns, coins, W, rfl, hp, perm, asc, ha, hsum, j0, kp, post⟩ := h
  have eqs : ∀ {a b : List Int}, a.Perm b → a.Pairwise (· ≤ ·) → b.Pairwise (· ≤ ·) → a = b := fun h1 h2 h3 => List.Perm.eq_of_pairwise (fun a b _ _ h4 h5 => Int.le_antisymm h4 h5) h2 h3 h1
  refine ⟨_, rfl, _, rfl, x, y, rfl, .inr ⟨ns, hp, .inr ⟨W, ha, hsum, fun t p q H1 ns' s1 perm' asc' hp1 hq1 ht1 => ?_⟩⟩⟩
  cases eqs (perm'.trans perm.symm) asc' asc
  refine ⟨_, _, rfl, SqT.of ht1, rfl, _, _, rfl, _, _, rfl, rfl, ?_⟩
  refine ⟨_, rfl, q, _, rfl, .inr (SqT.of hq1), fun L nL => ?_⟩
  have s2 : Same H (upd H1 L (.lst (W.map V.int))) := s1.trans (Same.new nL)
  have hq2 := Same.new (o := .lst (W.map V.int)) nL _ _ hq1
  have La : L ≠ ac := fun z => by
    obtain ⟨o, e⟩ := kp.there _ _ j0
    rw [← z] at e
    rw [s1 _ _ e] at nL
    cases nL
  refine ⟨_, rfl, q, rfl, ⟨_, SqT.of hq2⟩, fun D nD => lc_tup (K := K) (a := q) (xs := W.map V.int) (fun i H2 => ∃ qs : List Addr, H2 D = some (.lst (qs.map V.ref)) ∧ qs.length = i ∧ qs.Nodup ∧ (∀ r ∈ qs, H r = none ∧ r ≠ ac ∧ r ≠ L ∧ r ≠ D ∧ H2 r = some (.lst [])) ∧ Same (upd H1 L (.lst (W.map V.int))) H2)
    ⟨[], upd_same, rfl, .nil, by simp, Same.new nD⟩ (fun i H2 _ ⟨_, _, _, _, _, s3⟩ => SqT.of (s3 _ _ hq2)) ?_ ?_⟩
  · rintro i v H2 hi ⟨qs, hD, hlen, nd, hq, s3⟩
    have hw := (List.getElem?_eq_some_iff.mp hi).1
    refine ⟨rfl, ?_⟩
    refine ⟨Evl.sz_of (show (0 : Nat) ≤ _ from by decide), fun r nr => ?_⟩
    have rD : r ≠ D := fun z => by
      rw [← z, nr] at hD
      cases hD
    have rL : r ≠ L := fun z => by
      have e := s3 L _ upd_same
      rw [← z, nr] at e
      cases e
    have ra : r ≠ ac := fun z => by
      obtain ⟨o, e⟩ := kp.there _ _ j0
      rw [← z] at e
      rw [s3 _ _ (s2 _ _ e)] at nr
      cases nr
    have hr0 : H r = none := (s2.trans s3).free nr
    refine ⟨_, (upd_ne (Ne.symm rD)).trans hD, Evl.sz_lt (by rw [List.length_map, hlen]; have := ha; obtain ⟨_, _, _, _, _, h5, _⟩ := ha; rw [List.length_map] at hw; omega), qs ++ [r], ?_, by rw [List.length_append, hlen] <;> rfl, ?_, ?_, ?_⟩
    · rw [upd_same, map_snoc]
    · refine List.nodup_append.mpr ⟨nd, by simp, fun a ha b hb e => ?_⟩
      rw [List.mem_singleton.mp hb] at e
      have z := (hq a ha).2.2.2.2
      rw [e, nr] at z
      cases z
    · intro b hb
      rcases List.mem_append.mp hb with hb | hb
      · obtain ⟨h1, h2, h3, h4, h5⟩ := hq b hb
        exact ⟨h1, h2, h3, h4, (upd_ne h4).trans ((upd_ne (ne_of_none h5 nr)).trans h5)⟩
      · rw [List.mem_singleton.mp hb]
        exact ⟨hr0, ra, rL, rD, (upd_ne rD).trans upd_same⟩
    · exact (s3.trans (Same.new nr)).mut nD
  · rintro H2 ⟨qs, hD, hlen, nd, hq, s3⟩
    rw [List.length_map] at hlen
    have hp2 := s3 _ _ (Same.new (o := .lst (W.map V.int)) nL _ _ hp1)
    refine ⟨_, rfl, p, _, rfl, SqT.of hp2, fun rT nrT => ?_⟩
    have hlw : W.length ≤ 5 := by
      obtain ⟨_, _, _, _, _, h5, _⟩ := ha
      exact h5
    have hL2 : H2 L = some (.lst (W.map V.int)) := s3 _ _ upd_same
    have jj : J [] (upd H2 rT (.tup (coins.map V.int).reverse)) := kp.same _ _ _ j0 ((s2.trans s3).trans (Same.new nrT))
    have pz0 : Pz H H2 ac L D qs W (W.map fun _ => []) := by
      refine ⟨hL2, hD, s1.free nL, ?_, ?_, La, ?_, nd, by rw [List.length_map]; exact hlen, ?_⟩
      · exact s2.free nD
      · intro z
        rw [← z, upd_same] at nD
        cases nD
      · intro z
        obtain ⟨o, e⟩ := kp.there _ _ j0
        rw [← z] at e
        rw [s2 _ _ e] at nD
        cases nD
      · intro j r hj
        obtain ⟨h1, h2, h3, h4, h5⟩ := hq r (List.mem_of_getElem? hj)
        have hjl : j < W.length := by
          have := (List.getElem?_eq_some_iff.mp hj).1
          omega
        refine ⟨h1, h2, h3, h4, ?_⟩
        rw [getD_lt (by simpa using hjl), List.getElem_map]
        exact h5
    refine ⟨rT, true, _, rfl, SqT.of upd_same, for_it (walk_enumQ true) (fun i σ H3 => ∃ (ls : List Int) (ps : List (List Int)) (cs : List Call) (tu co pe : Option V), σ = [some x, some y, some (.ref g), some (.ref p), some (.ref q), some (.ref L), some (.ref D), tu, co, pe, none, none] ∧
      J cs H3 ∧ Pz H H3 ac L D qs ls ps ∧ ls.length = W.length ∧ ps.length = W.length ∧ H3 rT = some (.tup (coins.map V.int).reverse) ∧ ho (ansOf ch) i (coins.reverse.drop i) ls ps cs = play (ansOf ch) coins W ∧ (∀ j, (ps.getD j []).length ≤ i) ∧ cs.length = i) ?_ (fun i σ H3 _ ⟨_, _, _, _, _, _, _, _, _, _, _, hrT, _⟩ => SqT.of hrT) ?_ ?_⟩
    · refine ⟨W, _, [], none, none, none, rfl, jj, pz0.same (Same.new nrT), rfl, by simp, upd_same, rfl, fun j => ?_, rfl⟩
      rw [List.getD_eq_getElem?_getD, List.getElem?_map]
      cases W[j]? <;> simp
    · rintro i v σ H3 H4 hi ⟨ls, ps, cs, tu, co, pe, rfl, jc, pz, l1, l2, hrT, hm, hpl, hcs⟩ ⟨Tt, z, u, rfl, hT, rfl, e1, e2⟩
      cases Option.some.inj e1
      have e2 : (coins.map V.int).reverse[i]? = some u := e2
      rw [← List.map_reverse] at e2
      obtain ⟨c, hc, rfl⟩ := at_map e2
      obtain ⟨hi2, hc2⟩ := List.getElem?_eq_some_iff.mp hc
      have hdrop : coins.reverse.drop i = c :: coins.reverse.drop (i + 1) := by rw [List.drop_eq_getElem_cons hi2, hc2]
      rw [hdrop] at hm
      unfold ho at hm
      refine ⟨_, _, rfl, SqT.of upd_same, rfl, _, _, rfl, _, _, rfl, rfl, ?_⟩
      have sT : Same H3 (upd H3 Tt (.tup [.int (i : Int), .int c])) := Same.new hT
      generalize upd H3 Tt (.tup [.int (i : Int), .int c]) = H4 at sT
      have pz4 := pz.same sT
      have jc4 := kp.same _ _ _ jc sT
      have hrT4 := sT _ _ hrT
      have hlw1 : 1 ≤ W.length := by
        obtain ⟨_, _, _, _, h4, _⟩ := ha
        exact h4
      refine ⟨_, rfl, L, ls, rfl, SqL.of pz4.hL, by omega, fun m hm1 hm2 => ?_⟩
      refine ⟨_, rfl, _, _, rfl, rfl, _, rfl, ?_⟩
      refine if_dec (fun c1 => ?_) fun c1 => ?_
      · have hall : (ls.all fun l => decide (l < c)) = true := by
          rw [List.all_eq_true]
          intro l hl
          exact decide_eq_true (Int.lt_of_le_of_lt (hm2 l hl) c1)
        rw [hall, if_pos rfl] at hm
        have post' : HPost K J Q E (.stuck c ls, cs) := by
          rw [hm]
          exact post
        refine ⟨_, rfl, _, rfl, L, _, rfl, .inl ⟨SqL.of pz4.hL, fun t nt => ?_⟩⟩
        refine fun xx dx nx ndx nex => ⟨xx, dx, _, _, rfl, upd_same, rfl, ?_⟩
        have sS : Same H4 (upd H4 t (.tup (ls.map V.int))) := Same.new nt
        have tx : t ≠ xx := fun z => by
          rw [← z, upd_same] at nx
          cases nx
        refine post' xx dx t _ (kp.same _ _ _ jc4 (sS.trans ((((Same.new ndx).mut nx).mut nx).mut nx))) upd_same ?_
        rw [upd_ne tx, upd_ne tx, upd_ne tx]
        exact Same.new ndx _ _ upd_same
      · have hall : (ls.all fun l => decide (l < c)) = false := by
          cases e : ls.all fun l => decide (l < c) with
          | false => rfl
          | true => exact absurd (of_decide_eq_true (List.all_eq_true.mp e m hm1)) c1
        rw [hall, if_neg (by decide)] at hm
        obtain ⟨hfn, hco⟩ := kp.fn _ _ jc4
        have hc12 : cs.length ≤ 12 := by
          have h7 : coins.length ≤ 12 := by
            obtain ⟨_, _, _, _, h8, _⟩ := hp
            rw [perm.length_eq]
            exact h8
          rw [List.length_reverse] at hi2
          omega
        refine ⟨rfl, hfn, _, rfl, _, rfl, L, _, rfl, .inl ⟨SqL.of pz4.hL, fun t nt => ?_⟩⟩
        have sS : Same H4 (upd H4 t (.tup (ls.map V.int))) := Same.new nt
        refine ⟨sS _ _ hfn, sS _ _ hco, c, t, ls, cs, rfl, upd_same, kp.same _ _ _ jc4 sS, hall, by omega, hc12, fun v ty H6 hv j6 k6 hty => ?_, fun H6 hv j6 k6 => ?_⟩
        · have hans : ansOf ch cs (c, ls) = some (person v c ls) := by
            unfold ansOf
            rw [hv]
            rfl
          rw [hans] at hm
          have pz6 := (pz4.same sS).kh k6
          have nrac : rT ≠ ac := fun z => by
            obtain ⟨o, e⟩ := kp.there _ _ j0
            rw [← z] at e
            rw [s3 _ _ (s2 _ _ e)] at nrT
            cases nrT
          have hrT6 := k6 _ _ nrac (sS _ _ hrT4)
          refine ⟨_, rfl, _, rfl, _, rfl, v, c, L, ls, ty, rfl, hty, pz6.hL, _, rfl, ?_⟩
          cases hpv : person v c ls with
          | none =>
            rw [hpv] at hm
            have post' : HPost K J Q E (.bad i, cs ++ [(c, ls)]) := by
              have e : after (some none) i cs (c, ls) (fun j => ho (ansOf ch) (i + 1) (coins.reverse.drop (i + 1)) (ls.set j (ls.getD j 0 - c)) (ps.set j (c :: ps.getD j [])) (cs ++ [(c, ls)])) = (.bad i, cs ++ [(c, ls)]) := rfl
              rw [← e, hm]
              exact post
            refine ⟨_, rfl, _, rfl, fun d nd => ?_⟩
            exact post' d _ (kp.same _ _ _ j6 (Same.new nd)) upd_same
          | some j =>
            rw [hpv] at hm
            obtain ⟨rfl, hj, hcj⟩ := person_some hpv
            have hqj : j < qs.length := by
              have := pz6.len
              omega
            have hjl : (ls.map V.int)[j]? = some (V.int (ls.getD j 0)) := by
              rw [List.getElem?_map, List.getElem?_eq_getElem hj, getD_lt hj]
              rfl
            have hqe : qs[j]? = some qs[j] := List.getElem?_eq_getElem hqj
            obtain ⟨h1, h2, h3, h4, h5⟩ := pz6.q j _ hqe
            refine ⟨_, rfl, _, rfl, L, _, j, _, rfl, rfl, SqL.of pz6.hL, hjl, _, rfl, _, _, rfl, rfl, L, _, _, j, rfl, rfl, pz6.hL, by rw [List.length_map]; exact Evl.ixN_nat hj, ?_⟩
            have hG7 : upd H6 L (.lst ((ls.map V.int).set j (.int (ls.getD j 0 - c)))) D = some (.lst (qs.map V.ref)) := (upd_ne (Ne.symm pz6.LG)).trans pz6.hG
            have hq7 : upd H6 L (.lst ((ls.map V.int).set j (.int (ls.getD j 0 - c)))) qs[j] = some (.lst ((ps.getD j []).reverse.map V.int)) := (upd_ne h3).trans h5
            refine ⟨_, rfl, _, rfl, D, _, _, V.ref qs[j], rfl, rfl, SqL.of hG7, atI_nat (by rw [List.getElem?_map, hqe] <;> rfl), .inl ⟨rfl, _, SqL.of hq7⟩, _, rfl, qs[j], _, _, rfl, rfl, hq7, ?_, ?_⟩
            · refine Evl.sz_lt ?_
              rw [List.length_map, List.length_reverse]
              have h6 := hpl j
              have h7 : coins.length ≤ 12 := by
                obtain ⟨_, _, _, _, h8, _⟩ := hp
                rw [perm.length_eq]
                exact h8
              rw [List.length_reverse] at hi2
              omega
            · refine ⟨ls.set j (ls.getD j 0 - c), ps.set j (c :: ps.getD j []), cs ++ [(c, ls)], _, _, _, rfl, ?_, pz6.step hqe, by rw [List.length_set]; exact l1, by rw [List.length_set]; exact l2, ?_, hm, fun j' => ?_, by rw [List.length_append, hcs] <;> rfl⟩
              · exact kp.lst _ _ _ _ _ (kp.lst _ _ _ _ _ j6 pz6.hL pz6.La pz6.nL) hq7 h2 h1
              · have n1 : rT ≠ qs[j] := fun z => by
                  rw [← z, hrT6] at h5
                  cases h5
                have n2 : rT ≠ L := fun z => by
                  have e := pz6.hL
                  rw [← z, hrT6] at e
                  cases e
                rw [upd_ne n1, upd_ne n2]
                exact hrT6
              · rw [getD_set _ _ _ _ _ (by rw [← pz6.len]; exact hqj)]
                split
                · have := hpl j
                  simp only [List.length_cons]
                  omega
                · exact Nat.le_succ_of_le (hpl j')
        · have post' : HPost K J Q E (.lost, cs ++ [(c, ls)]) := by
            have hans : ansOf ch cs (c, ls) = none := by
              unfold ansOf
              rw [hv]
              rfl
            rw [hans] at hm
            have e : after none i cs (c, ls) (fun j => ho (ansOf ch) (i + 1) (coins.reverse.drop (i + 1)) (ls.set j (ls.getD j 0 - c)) (ps.set j (c :: ps.getD j [])) (cs ++ [(c, ls)])) = (.lost, cs ++ [(c, ls)]) := rfl
            rw [← e, hm]
            exact post
          exact post' H6 j6
    · rintro σ H3 ⟨ls, ps, cs, tu, co, pe, rfl, jc, pz, l1, l2, hrT, hm, hpl, hcs⟩
      have hlen : (coins.map V.int).reverse.length = coins.reverse.length := by simp
      rw [hlen, List.drop_length] at hm
      have post' : HPost K J Q E (.split ps, cs) := by
        have e : ho (ansOf ch) coins.reverse.length [] ls ps cs = (.split ps, cs) := rfl
        rw [← e, hm]
        exact post
      refine ⟨_, rfl, D, rfl, ⟨_, SqL.of pz.hG⟩, fun D2 nD2 => lc_list (K := K) (a := D) (xs := qs.map V.ref) (fun i H' => ∃ rs : List Addr, H' D2 = some (.lst (rs.map V.ref)) ∧ rs.length = i ∧ (∀ j r, rs[j]? = some r → H' r = some (.tup ((ps.getD j []).map V.int))) ∧ Same H3 H')
        ⟨[], upd_same, rfl, fun j r hj => by simp at hj, Same.new nD2⟩ (fun i H' _ ⟨_, _, _, _, s4⟩ => SqL.of (s4 _ _ pz.hG)) ?_ ?_⟩
      · rintro i v H' hi ⟨rs, hD2, hl2, hrs, s4⟩
        obtain ⟨r, hr, rfl⟩ := at_map hi
        obtain ⟨_, _, _, _, hqr⟩ := pz.q i r hr
        refine ⟨rfl, ?_⟩
        refine ⟨_, rfl, r, _, rfl, SqL.of (s4 _ _ hqr), fun a na => ?_⟩
        refine ⟨a, _, rfl, .inl ⟨SqL.of upd_same, fun b nb => ?_⟩⟩
        have hD3 := Same.new (o := .lst (((ps.getD i []).reverse.map V.int).reverse)) na _ _ hD2
        have aD : a ≠ D2 := fun z => by
          rw [← z, na] at hD2
          cases hD2
        have bD : b ≠ D2 := fun z => by
          rw [← z, nb] at hD3
          cases hD3
        have hqlen : i < W.length := by
          have := (List.getElem?_eq_some_iff.mp hr).1
          omega
        refine ⟨_, (upd_ne (Ne.symm bD)).trans hD3, Evl.sz_lt (by rw [List.length_map, hl2]; omega), rs ++ [b], ?_, by rw [List.length_append, hl2] <;> rfl, fun j r' hj => ?_, ?_⟩
        · rw [upd_same, map_snoc]
        · by_cases e : j < rs.length
          · rw [List.getElem?_append_left e] at hj
            have h5 := hrs j r' hj
            have n1 : r' ≠ D2 := fun z => by
              rw [z, hD2] at h5
              cases h5
            exact (upd_ne n1).trans (Same.new nb _ _ (Same.new na _ _ h5))
          · rw [List.getElem?_append_right (by omega)] at hj
            have ej : j - rs.length = 0 := by
              have := (List.getElem?_eq_some_iff.mp hj).1
              simp at this
              omega
            rw [ej] at hj
            have er : b = r' := by simpa using hj
            subst er
            have ei : j = i := by omega
            subst ei
            rw [upd_ne bD, upd_same, List.map_reverse, List.reverse_reverse]
        · exact ((s4.trans (Same.new na)).trans (Same.new nb)).mut nD2
      · rintro H' ⟨rs, hD2, hl2, hrs, s4⟩
        rw [List.length_map] at hl2
        refine ⟨D2, _, rfl, .inl ⟨SqL.of hD2, fun p2 np2 => ?_⟩⟩
        refine post' p2 rs _ (kp.same _ _ _ jc (s4.trans (Same.new np2))) upd_same (by rw [hl2]; exact pz.len) fun j r hj => Same.new np2 _ _ (hrs j r hj)
end
end K12

set_option Elab.async false
set_option linter.all false
set_option maxRecDepth 100000
set_option maxHeartbeats 4000000
/-! The law's pools. -/
namespace K12
open PySem PySem.Spec PyProof.Rows L2 K12L
local macro_rules | `(tactic| walk_at "rd") => `(tactic| repeat (first | (with_reducible exact trivial) | refine ⟨_, rfl, ?_⟩ | refine ⟨_, _, rfl, rfl, ?_⟩ | refine Or.inl ⟨_, rfl, ?_⟩ | refine ⟨Or.inr ⟨by decide, by decide⟩, ?_⟩ | refine ⟨Or.inl ⟨by omega, by omega⟩, ?_⟩ | refine ⟨⟨by decide, by decide +kernel⟩, ?_⟩ | refine ⟨(show (0 : Int) < _ from by decide), ?_⟩ | refine ⟨(show (0 : Int) < _ from by omega), ?_⟩ | refine ⟨cdivW (by omega) (by omega), ?_⟩ | refine ⟨_, _, _, _, rfl, rfl, SqL.of (by first | assumption | exact upd_same), by rfl, ?_⟩ | refine ⟨_, _, _, _, rfl, rfl, (by first | assumption | exact upd_same), by rfl, ?_⟩ | refine ⟨_, _, rfl, Or.inl (SqL.of (by first | assumption | exact upd_same)), ?_⟩ | refine ⟨Or.inl ⟨rfl, _, SqL.of (by first | assumption | exact upd_same)⟩, ?_⟩ | refine ⟨_, _, _, rfl, rfl, (by first | assumption | exact upd_same), (Evl.sz_lt (by first | omega | (simp only [List.length_map]; omega))), ?_⟩ | refine ⟨rfl, ?_⟩))
def In (lo hi : Int) (cs : List Int) : Prop := ∀ c ∈ cs, lo ≤ c ∧ c ≤ hi
theorem In.snoc {lo hi c : Int} {cs : List Int} (h : In lo hi cs) (h1 : lo ≤ c) (h2 : c ≤ hi) : In lo hi (cs ++ [c]) := fun x hx => by
  rcases List.mem_append.mp hx with hx | hx
  · exact h x hx
  · rw [List.mem_singleton.mp hx]
    exact ⟨h1, h2⟩
theorem In.nil {lo hi : Int} : In lo hi [] := fun _ h => by simp at h
theorem In.mono {lo hi lo' hi' : Int} {cs : List Int} (h : In lo hi cs) (h1 : lo' ≤ lo) (h2 : hi ≤ hi') : In lo' hi' cs := fun x hx => ⟨Int.le_trans h1 (h x hx).1, Int.le_trans (h x hx).2 h2⟩
theorem In.perm {lo hi : Int} {cs ds : List Int} (h : In lo hi cs) (p : ds.Perm cs) : In lo hi ds := fun x hx => h x (p.mem_iff.mp hx)
theorem In.sum0 {lo hi : Int} {cs : List Int} (h : In lo hi cs) (h0 : 0 ≤ lo) : 0 ≤ cs.sum := Hand.nn_sum0 cs fun x hx => Int.le_trans h0 (h x hx).1
theorem In.sum {lo hi : Int} : ∀ {cs : List Int}, In lo hi cs → cs.sum ≤ (cs.length : Int) * hi
  | [], _ => by simp
  | a :: cs, h => by
    have i := In.sum (cs := cs) fun x hx => h x (by simp [hx])
    have z := (h a (by simp)).2
    rw [List.sum_cons, List.length_cons]
    have e : ((cs.length + 1 : Nat) : Int) * hi = (cs.length : Int) * hi + hi := by
      rw [Int.natCast_add, Int.add_mul]
      simp
    omega
theorem room_b {s m : Int} (h0 : 0 ≤ s) (h1 : 1 ≤ m) (h5 : m ≤ 5) : 1 ≤ roomI s m ∧ (m = 1 → roomI s m = 9) ∧ (2 ≤ m → roomI s m ≤ s + 1) := by
  unfold roomI
  have hm : m = 1 ∨ m = 2 ∨ m = 3 ∨ m = 4 ∨ m = 5 := by omega
  rcases hm with e | e | e | e | e <;> subst e <;> simp <;> omega
section
variable {P : Program} {w : World} {K : PySem.W.Frag} {mg : Str → Option Value} {base : Heap}
/-- a new list of ints, all but the hand as it was -/
def NewL (hd : Hd) (H : Hp) (Q : VK) (C : List Int → Prop) : Prop := ∀ (p : Addr) (H' : Hp) (cs : List Int), H p = none → St hd H' → Kh hd.1 H H' → H' p = some (.lst (cs.map V.int)) → p ≠ hd.1 → p ≠ hd.2 → C cs → Q (.ref p) H'
def spRising : Sp := fun vs H Q _ => ∃ (hd : Hd) (n m : Int), vs = [.ref hd.1, .int n, .int m] ∧ St hd H ∧ 0 ≤ n ∧ n ≤ 12 ∧ 1 ≤ m ∧ m ≤ 5 ∧ NewL hd H Q fun cs => (cs.length : Int) = n ∧ In 1 2048 cs
theorem h_l_rising (T : Txt K mg) : Has P w K mg base CX0 3 "_law_rising" P_l_rising spRising := by
  obtain ⟨f, fd, g, F⟩ := T.dfn ("_law_rising", 36) (by decide +kernel)
  have h_l_take := h_l_take (P := P) (w := w) (base := base) T
  have h_l_room := h_l_room (P := P) (w := w) (base := base) T
  refine ⟨f, fd, g, F.kp, F.bindsN (fun _ _ _ _ _ _ us hl => match us, hl with | [_, _, _], _ => rfl), F.ok sc_l_rising (fun vs H Q E h => ?_) fun cdv A outer s H vs Q E hr h => ?_⟩
  · obtain ⟨hd, n, m, rfl, _⟩ := h
    rfl
  · obtain ⟨hd, n, m, rfl, hs, n0, n1, m0, m1, k⟩ := h
    refine ⟨_, PSs.nox (pss_cons (ps_set (i := 3) sc_l_rising.nd rfl (Or.inl rfl) (pe_lst pa_nil))
  (pss_cons (ps_for PassesOwn.never rfl (pi_range1 rfl (T.free "range" (by decide)) (pa_cons (pv 1) pa_nil)) (pg_name (i := 4) sc_l_rising.nd rfl (Or.inl rfl))
    (pss_cons (ps_set (i := 5) sc_l_rising.nd rfl (Or.inl rfl) (pe_has h_l_room hr (by decide) (pa_cons (pe_callB (cr_sum rfl) rfl (T.free "sum" (by decide)) (by decide +kernel) (pa_cons (pv 3) pa_nil)) (pa_cons (pv 2) pa_nil))))
    (pss_one (ps_expr (pe_bm PySem.F.plainAttrs_list PySem.F.slot_list_append PySem.F.type_list_append mt_append (pv 3) (pa_cons (pe_ifExp (pt_truth (pe_has h_l_take hr (by decide) (pa_cons (pv 0) (pa_cons pe_int pa_nil))) (by intro _; rfl)) (pv 5) (pe_op op_add pe_int (pe_has h_l_take hr (by decide) (pa_cons (pv 0) (pa_cons (pv 5) pa_nil))))) pa_nil))))))
  (pss_one (ps_ret (pv 3)))))
    , ?_⟩
    walk_at "rd"
    refine ⟨Evl.sz_of (show (0 : Nat) ≤ _ from by decide), fun p np => ?_⟩
    have ph := hs.ne np
    have pc := hs.nc np
    refine ⟨_, rfl, n, rfl, by omega, by omega, for_range (lo := 0) (n := n.toNat) (fun i σ H1 => ∃ (cs : List Int) (tu ro : Option V), σ = [some (.ref hd.1), some (.int n), some (.int m), some (.ref p), tu, ro] ∧ H1 p = some (.lst (cs.map V.int)) ∧ St hd H1 ∧ Kh hd.1 H H1 ∧ cs.length = i ∧ In 1 2048 cs ∧ (2 ≤ m → cs.sum + 1 ≤ ((2 ^ i : Nat) : Int)))
      ⟨[], none, none, rfl, upd_same, hs.new np, Kh.new np, rfl, In.nil, fun _ => by simp⟩ ?_ ?_⟩
    · rintro i σ H1 hi ⟨cs, tu, ro, rfl, hp, s1, k1, hl, hc, hsum⟩
      have hs0 := hc.sum0 (by decide)
      obtain ⟨b1, b2, b3⟩ := room_b (m := m) hs0 m0 m1
      have hpw : ((2 ^ i : Nat) : Int) ≤ 2048 := by
        have z : 2 ^ i ≤ 2 ^ 11 := Nat.pow_le_pow_right (by decide) (by omega)
        have z2 : (2 : Nat) ^ 11 = 2048 := by decide
        omega
      have hpw2 : ((2 ^ (i + 1) : Nat) : Int) = 2 * ((2 ^ i : Nat) : Int) := by
        rw [Nat.pow_succ]
        omega
      have rb : roomI cs.sum m ≤ 2048 := by
        by_cases e : m = 1
        · rw [b2 e]; decide
        · have h1 := b3 (by omega)
          have h2 := hsum (by omega)
          omega
      refine ⟨_, rfl, p, cs, rfl, SqL.of hp, _, rfl, _, _, rfl, m0, by omega, ?_⟩
      refine ⟨_, rfl, .inl ⟨rfl, _, SqL.of hp⟩, ?_⟩
      refine ⟨_, rfl, hd, _, rfl, s1, by decide, by decide, fun r H2 r0 r1 s2 k2 => ⟨_, rfl, ?_⟩⟩
      have hp2 := k2 _ _ ph hp
      have fin : ∀ (v : Int) (H4 : Hp), 1 ≤ v → v ≤ roomI cs.sum m → St hd H4 → Kh hd.1 H H4 → H4 p = some (.lst (cs.map V.int)) → ∃ (cs' : List Int) (tu ro : Option V), [some (V.ref hd.1), some (.int n), some (.int m), some (.ref p), some (V.int (0 + (i : Int))), some (.int (roomI cs.sum m))] = [some (V.ref hd.1), some (.int n), some (.int m), some (.ref p), tu, ro] ∧
          (upd H4 p (.lst (cs.map V.int ++ [.int v]))) p = some (.lst (cs'.map V.int)) ∧ St hd (upd H4 p (.lst (cs.map V.int ++ [.int v]))) ∧ Kh hd.1 H (upd H4 p (.lst (cs.map V.int ++ [.int v]))) ∧ cs'.length = i + 1 ∧ In 1 2048 cs' ∧ (2 ≤ m → cs'.sum + 1 ≤ ((2 ^ (i + 1) : Nat) : Int)) := by
        intro v H4 v1 v2 s4 k4 h4
        refine ⟨cs ++ [v], _, _, rfl, by rw [upd_same, ← map_snoc], s4.mut ph pc, k4.mut np, by rw [List.length_append, hl] <;> rfl, hc.snoc v1 (by omega), fun hm => ?_⟩
        rw [List.sum_append, hpw2]
        have h1 := b3 hm
        have h2 := hsum hm
        simp only [List.sum_cons, List.sum_nil]
        omega
      cases hb : (r != 0) with
      | true =>
        refine ⟨_, rfl, p, _, _, rfl, rfl, hp2, Evl.sz_lt (by rw [List.length_map]; omega), ?_⟩
        exact fin _ _ b1 (Int.le_refl _) s2 (k1.trans k2) hp2
      | false =>
        refine ⟨_, rfl, _, rfl, hd, _, rfl, s2, b1, by omega, fun r' H3 r0' r1' s3 k3 => ?_⟩
        have hp3 := k3 _ _ ph hp2
        refine ⟨_, _, rfl, rfl, p, _, _, rfl, rfl, hp3, Evl.sz_lt (by rw [List.length_map]; omega), ?_⟩
        exact fin _ _ (by omega) (by omega) s3 ((k1.trans k2).trans k3) hp3
    · rintro σ H1 ⟨cs, tu, ro, rfl, hp, s1, k1, hl, hc, hsum⟩
      exact ⟨_, rfl, k p H1 cs np s1 k1 hp ph pc ⟨by omega, hc⟩⟩
/-- a slice of ints -/
def cutI (xs : List Int) (lo hi : Option Int) : List Int := (xs.drop (HT.sIx xs.length 0 lo)).take (HT.sIx xs.length xs.length hi - HT.sIx xs.length 0 lo)
theorem cut_map (xs : List Int) (lo hi : Option Int) : cutV (xs.map V.int) lo hi = (cutI xs lo hi).map V.int := by
  unfold cutV cutI
  rw [List.length_map, List.map_take, List.map_drop]
theorem cutI_mem {xs : List Int} {lo hi : Option Int} {x : Int} (h : x ∈ cutI xs lo hi) : x ∈ xs := List.mem_of_mem_drop (List.mem_of_mem_take h)
theorem cutI_len {xs : List Int} {lo hi : Option Int} : (cutI xs lo hi).length ≤ xs.length := by
  unfold cutI
  rw [List.length_take, List.length_drop]
  omega
theorem cutI_to (xs : List Int) (k : Nat) : cutI xs none (some (k : Int)) = xs.take k := by
  unfold cutI
  have e1 : HT.sIx xs.length 0 none = 0 := rfl
  have e2 := HT.sIx_nat xs.length xs.length k
  rw [e1, e2, List.drop_zero, Nat.sub_zero]
  by_cases h : k ≤ xs.length
  · rw [Nat.min_eq_left h]
  · rw [Nat.min_eq_right (by omega), List.take_of_length_le (Nat.le_refl _), List.take_of_length_le (by omega)]
theorem cutI_from (xs : List Int) (k : Nat) : cutI xs (some (k : Int)) none = xs.drop k := by
  unfold cutI
  have e1 : HT.sIx xs.length xs.length none = xs.length := rfl
  have e2 := HT.sIx_nat xs.length 0 k
  rw [e1, e2]
  by_cases h : k ≤ xs.length
  · rw [Nat.min_eq_left h, List.take_of_length_le (by rw [List.length_drop]; omega)]
  · rw [Nat.min_eq_right (by omega), List.drop_of_length_le (Nat.le_refl _), List.drop_of_length_le (by omega)]
    simp
def spSpoilt : Sp := fun vs H Q _ => ∃ (hd : Hd) (a : Addr) (m : Int) (cs : List Int), vs = [.ref hd.1, .ref a, .int m] ∧ St hd H ∧ H a = some (.lst (cs.map V.int)) ∧ cs.length ≤ 11 ∧ In 1 2048 cs ∧ 1 ≤ m ∧ m ≤ 5 ∧ NewL hd H Q fun ds => ds.length ≤ 12 ∧ In 1 1000000000 ds
theorem h_l_spoilt (T : Txt K mg) : Has P w K mg base CX0 3 "_law_spoilt" P_l_spoilt spSpoilt := by
  obtain ⟨f, fd, g, F⟩ := T.dfn ("_law_spoilt", 37) (by decide +kernel)
  have h_l_take := h_l_take (P := P) (w := w) (base := base) T
  have h_l_room := h_l_room (P := P) (w := w) (base := base) T
  refine ⟨f, fd, g, F.kp, F.bindsN (fun _ _ _ _ _ _ us hl => match us, hl with | [_, _, _], _ => rfl), F.ok sc_l_spoilt (fun vs H Q E h => ?_) fun cdv A outer s H vs Q E hr h => ?_⟩
  · obtain ⟨hd, a, m, cs, rfl, _⟩ := h
    rfl
  · obtain ⟨hd, a, m, cs, rfl, hs, ha, hl, hc, m0, m1, k⟩ := h
    refine ⟨_, PSs.nox (pss_cons (ps_set (i := 3) sc_l_spoilt.nd rfl (Or.inl rfl) (pe_callB cr_sortedQ rfl (T.free "sorted" (by decide)) (by decide +kernel) (pa_cons (pe_slice sl_list (pv 1) po_none (po_some pe_int)) pa_nil)))
  (pss_cons (ps_set (i := 4) sc_l_spoilt.nd rfl (Or.inl rfl) (pe_has h_l_take hr (by decide) (pa_cons (pv 0) (pa_cons (pe_op op_add (pe_callB call_len_seq rfl (T.free "len" (by decide)) (by decide +kernel) (pa_cons (pv 3) pa_nil)) pe_int) pa_nil))))
  (pss_one (ps_ret (pe_op op_cat (pv 3) (pe_lst (pa_cons (pe_op op_add (pe_has h_l_room hr (by decide) (pa_cons (pe_callB (cr_sum rfl) rfl (T.free "sum" (by decide)) (by decide +kernel) (pa_cons (pe_slice sl_list (pv 3) po_none (po_some (pv 4))) pa_nil)) (pa_cons (pv 2) pa_nil))) pe_int) pa_nil)))))))
    , ?_⟩
    refine ⟨_, rfl, _, rfl, a, _, rfl, SqL.of ha, fun p np => ?_⟩
    rw [cut_map]
    have hcl : (cutI cs none (some 11)).length ≤ 11 := Nat.le_trans cutI_len hl
    refine ⟨p, false, cutI cs none (some 11), rfl, SqL.of upd_same, by omega, fun ms q perm asc nq => ?_⟩
    have hms : In 1 2048 ms := fun x hx => hc x (cutI_mem (perm.mem_iff.mp hx))
    have hml : ms.length ≤ 11 := by rw [perm.length_eq]; exact hcl
    have s1 : Same H (upd (upd H p (.lst ((cutI cs none (some 11)).map V.int))) q (.lst (ms.map V.int))) := (Same.new np).trans (Same.new nq)
    have hq : upd (upd H p (.lst ((cutI cs none (some 11)).map V.int))) q (.lst (ms.map V.int)) q = some (.lst (ms.map V.int)) := upd_same
    have qh := (hs.same (Same.new np)).ne nq
    generalize upd (upd H p (.lst ((cutI cs none (some 11)).map V.int))) q (.lst (ms.map V.int)) = H1 at s1 hq
    refine ⟨_, rfl, _, rfl, q, _, rfl, .inl (SqL.of hq), _, _, rfl, rfl, hd, _, rfl, hs.same s1, by omega, by rw [List.length_map]; omega, fun r H2 r0 r1 s2 k2 => ?_⟩
    have hq2 := k2 _ _ qh hq
    refine ⟨_, rfl, _, rfl, _, rfl, _, rfl, q, _, rfl, SqL.of hq2, fun p3 np3 => ?_⟩
    rw [cut_map]
    have hin := In.sum (cs := cutI ms none (some r)) (hi := 2048) (lo := 1) fun x hx => hms x (cutI_mem hx)
    have hi0 := In.sum0 (cs := cutI ms none (some r)) (hi := 2048) (lo := 1) (fun x hx => hms x (cutI_mem hx)) (by decide)
    have hln : (cutI ms none (some r)).length ≤ 11 := Nat.le_trans cutI_len hml
    obtain ⟨b1, b2, b3⟩ := room_b (m := m) hi0 m0 m1
    refine ⟨p3, _, rfl, SqL.of upd_same, _, rfl, _, _, rfl, m0, by omega, _, _, rfl, rfl, Evl.sz_of (show (1 : Nat) ≤ _ from by decide), fun p4 np4 => ?_⟩
    have q3 : upd (upd H2 p3 (.lst ((cutI ms none (some r)).map V.int))) p4 (.lst [.int (roomI (cutI ms none (some r)).sum m + 1)]) q = some (.lst (ms.map V.int)) := Same.new np4 _ _ (Same.new np3 _ _ hq2)
    refine ⟨q, p4, _, _, rfl, rfl, q3, upd_same, Evl.sz_of (by rw [List.length_map]; show ms.length + 1 ≤ _; omega), fun p5 np5 => ?_⟩
    have s5 := ((Same.new (o := .lst ((cutI ms none (some r)).map V.int)) np3).trans (Same.new (o := .lst [.int (roomI (cutI ms none (some r)).sum m + 1)]) np4)).trans (Same.new (o := .lst (ms.map V.int ++ [.int (roomI (cutI ms none (some r)).sum m + 1)])) np5)
    have sH := (s2.same (Same.new (o := .lst ((cutI ms none (some r)).map V.int)) np3)).same (Same.new (o := .lst [.int (roomI (cutI ms none (some r)).sum m + 1)]) np4)
    have k5 : Kh hd.1 H _ := ((Kh.of s1).trans k2).trans (Kh.of s5)
    have rr : roomI (cutI ms none (some r)).sum m ≤ 30000 := by
      by_cases e : m = 1
      · rw [b2 e]; decide
      · have := b3 (by omega)
        omega
    exact k p5 _ (ms ++ [roomI (cutI ms none (some r)).sum m + 1]) (s1.free (Kh.none k2 s2 ((Same.new np3).free ((Same.new np4).free np5)))) (s2.same s5) k5 (by rw [upd_same, ← map_snoc]) (sH.ne np5) (sH.nc np5) ⟨by rw [List.length_append]; show ms.length + 1 ≤ 12; omega, (hms.mono (Int.le_refl _) (by decide)).snoc (by omega) (by omega)⟩
def spSmall : Sp := fun vs H Q _ => ∃ (hd : Hd) (n : Int), vs = [.ref hd.1, .int n] ∧ St hd H ∧ 0 ≤ n ∧ n ≤ 12 ∧ NewL hd H Q fun cs => (cs.length : Int) = n ∧ In 1 1000000000 cs
/-- the list D of a comprehension that draws -/
def Drawn (hd : Hd) (H : Hp) (lo hi : Int) (D : Addr) (i : Nat) (H1 : Hp) : Prop := ∃ cs : List Int, H1 D = some (.lst (cs.map V.int)) ∧ St hd H1 ∧ Kh hd.1 H H1 ∧ cs.length = i ∧ In lo hi cs
theorem Drawn.put {hd : Hd} {H H1 H2 : Hp} {lo hi v : Int} {D : Addr} {i : Nat} (d : Drawn hd H lo hi D i H1) (nD : H D = none) (dh : D ≠ hd.1) (dc : D ≠ hd.2) (s : St hd H2) (k : Kh hd.1 H1 H2) (hi' : i < 90000) (v1 : lo ≤ v) (v2 : v ≤ hi) :
    ∃ acc, H2 D = some (.lst acc) ∧ acc.length < sizeLine ∧ Drawn hd H lo hi D (i + 1) (upd H2 D (.lst (acc ++ [V.int v]))) := by
  obtain ⟨cs, h1, h2, h3, h4, h5⟩ := d
  refine ⟨cs.map V.int, k _ _ dh h1, Evl.sz_lt (by rw [List.length_map]; omega), cs ++ [v], by rw [upd_same, ← map_snoc], s.mut dh dc, (h3.trans k).mut nD, by rw [List.length_append, h4] <;> rfl, h5.snoc v1 v2⟩
theorem h_l_small (T : Txt K mg) : Has P w K mg base CX0 3 "_law_small" P_l_small spSmall := by
  obtain ⟨f, fd, g, F⟩ := T.dfn ("_law_small", 38) (by decide +kernel)
  have h_l_take := h_l_take (P := P) (w := w) (base := base) T
  refine ⟨f, fd, g, F.kp, F.bindsN (fun _ _ _ _ _ _ us hl => match us, hl with | [_, _], _ => rfl), F.ok sc_l_small (fun vs H Q E h => ?_) fun cdv A outer s H vs Q E hr h => ?_⟩
  · obtain ⟨hd, n, rfl, _⟩ := h
    rfl
  · obtain ⟨hd, n, rfl, hs, n0, n1, k⟩ := h
    refine ⟨_, PSs.nox (pss_cons (ps_set (i := 2) sc_l_small.nd rfl (Or.inr rfl) (pe_op op_add pe_int (pe_has h_l_take hr (by decide) (pa_cons (pv 0) (pa_cons pe_int pa_nil)))))
  (pss_one (ps_ret (pe_lc (own := [("_law_turn", 3)]) (g := gName 3) (tt := tYes) rfl sc_l_small.nd (pi_range1 rfl (T.free "range" (by decide)) (pa_cons (pv 1) pa_nil)) (blkOk_by (N := N_l_small) (sc := defScope s_l_small) (by decide +kernel)) (fun _ _ _ _ _ => pg_name (i := 3) sc_l_small.nd rfl (Or.inl rfl)) (fun _ _ _ _ _ => pts_nil) (fun _ _ _ _ _ => (pe_op op_add (pv 2) (pe_has h_l_take hr (by decide) (pa_cons (pv 0) (pa_cons pe_int pa_nil)))))))))
    , ?_⟩
    refine ⟨_, rfl, hd, _, rfl, hs, by decide, by decide, fun r H1 r0 r1 s1 k1 => ⟨_, _, rfl, rfl, ?_⟩⟩
    refine ⟨_, rfl, n, rfl, by omega, by omega, fun D nD => lc_range (lo := 0) (n := n.toNat) (fun i H2 => Drawn hd H1 1 1000000000 D i H2) ⟨[], upd_same, s1.new nD, Kh.new nD, rfl, In.nil⟩ ?_ ?_⟩
    · intro i H2 hi dr
      obtain ⟨cs, h1, h2, h3, h4, h5⟩ := id dr
      refine ⟨rfl, ?_⟩
      refine ⟨_, rfl, _, rfl, hd, _, rfl, h2, by decide, by decide, fun r' H3 r0' r1' s3 k3 => ⟨_, _, rfl, rfl, ?_⟩⟩
      exact dr.put nD (s1.ne nD) (s1.nc nD) s3 k3 (by omega) (by omega) (by omega)
    · rintro H2 ⟨cs, h1, h2, h3, h4, h5⟩
      exact k D H2 cs (k1.none s1 nD) h2 (k1.trans h3) h1 (s1.ne nD) (s1.nc nD) ⟨by omega, h5⟩
theorem h_l_great (T : Txt K mg) : Has P w K mg base CX0 3 "_law_great" P_l_great spSmall := by
  obtain ⟨f, fd, g, F⟩ := T.dfn ("_law_great", 39) (by decide +kernel)
  have h_l_take := h_l_take (P := P) (w := w) (base := base) T
  refine ⟨f, fd, g, F.kp, F.bindsN (fun _ _ _ _ _ _ us hl => match us, hl with | [_, _], _ => rfl), F.ok sc_l_great (fun vs H Q E h => ?_) fun cdv A outer s H vs Q E hr h => ?_⟩
  · obtain ⟨hd, n, rfl, _⟩ := h
    rfl
  · obtain ⟨hd, n, rfl, hs, n0, n1, k⟩ := h
    refine ⟨_, PSs.nox (pss_one (ps_ret (pe_lc (own := [("_law_turn", 2)]) (g := gName 2) (tt := tYes) (te := tIf (fun σ H Q => tCall spTake [] E0 (tCons (tVar 0) (tCons (tC (.int 3)) tNil)) σ H fun x H' => ∃ k, TruV K x H' k ∧ Q k H') (tOp (rI0 fun i j => .int (i + j)) (tC (.int 1)) (tCall spTake [] E0 (tCons (tVar 0) (tCons (tOp (rI CPow fun i j => .int (i ^ j.toNat)) (tC (.int 10)) (tC (.int 9))) tNil)))) (tOp (rIxL K) (tLst (tCons (tOp (rI CPow fun i j => .int (i ^ j.toNat)) (tC (.int 10)) (tC (.int 9))) (tCons (tC (.int 1)) (tCons (tC (.int 999999999)) tNil)))) (tCall spTake [] E0 (tCons (tVar 0) (tCons (tC (.int 3)) tNil))))) rfl sc_l_great.nd (pi_range1 rfl (T.free "range" (by decide)) (pa_cons (pv 1) pa_nil)) (blkOk_by (N := N_l_great) (sc := defScope s_l_great) (by decide +kernel)) (fun _ _ _ _ _ => pg_name (i := 2) sc_l_great.nd rfl (Or.inl rfl)) (fun _ _ _ _ _ => pts_nil) (fun _ _ _ _ _ => (pe_ifExp (pt_truth (pe_has h_l_take hr (by decide) (pa_cons (pv 0) (pa_cons pe_int pa_nil))) (by intro _; rfl)) (pe_op op_add pe_int (pe_has h_l_take hr (by decide) (pa_cons (pv 0) (pa_cons (pe_op op_pow pe_int pe_int) pa_nil)))) (pe_ix ix_list (pe_lst (pa_cons (pe_op op_pow pe_int pe_int) (pa_cons pe_int (pa_cons pe_int pa_nil)))) (pe_has h_l_take hr (by decide) (pa_cons (pv 0) (pa_cons pe_int pa_nil))) (fun _ _ => rfl)))))))
    , ?_⟩
    refine ⟨_, rfl, n, rfl, by omega, by omega, fun D nD => lc_range (lo := 0) (n := n.toNat) (fun i H2 => Drawn hd H 1 1000000000 D i H2) ⟨[], upd_same, hs.new nD, Kh.new nD, rfl, In.nil⟩ ?_ ?_⟩
    · intro i H2 hi dr
      obtain ⟨cs, h1, h2, h3, h4, h5⟩ := id dr
      refine ⟨rfl, ?_⟩
      refine ⟨_, rfl, hd, _, rfl, h2, by decide, by decide, fun r H3 r0 r1 s3 k3 => ⟨_, rfl, ?_⟩⟩
      cases hb : (r != 0) with
      | true =>
        refine ⟨_, rfl, _, _, rfl, rfl, ⟨by decide, by decide, by decide⟩, hd, _, rfl, s3, by decide, by decide, fun r' H4 r0' r1' s4 k4 => ⟨_, _, rfl, rfl, ?_⟩⟩
        have r1' : r' < 1000000000 := r1'
        exact dr.put nD (hs.ne nD) (hs.nc nD) s4 (k3.trans k4) (by omega) (by omega) (by omega)
      | false =>
        refine ⟨_, _, rfl, rfl, ⟨by decide, by decide, by decide⟩, Evl.sz_of (show (3 : Nat) ≤ _ from by decide), fun p np => ?_⟩
        refine ⟨_, rfl, hd, _, rfl, s3.new np, by decide, by decide, fun r' H4 r0' r1' s4 k4 => ?_⟩
        have hp := k4 p _ (s3.ne np) upd_same
        have kk : Kh hd.1 H2 H4 := (k3.trans (Kh.new np)).trans k4
        obtain ⟨m, rfl⟩ := Int.eq_ofNat_of_zero_le r0'
        have hm : m = 0 ∨ m = 1 ∨ m = 2 := by omega
        rcases hm with e | e | e <;> (subst e; exact ⟨_, _, _, _, rfl, rfl, SqL.of hp, rfl, dr.put nD (hs.ne nD) (hs.nc nD) s4 kk (by omega) (by decide) (by decide)⟩)
    · rintro H2 ⟨cs, h1, h2, h3, h4, h5⟩
      exact k D H2 cs nD h2 h3 h1 (hs.ne nD) (hs.nc nD) ⟨by omega, h5⟩
def spPoolL : Sp := fun vs H Q _ => ∃ (hd : Hd) (most m : Int), vs = [.ref hd.1, .int most, .int m] ∧ St hd H ∧ 0 ≤ most ∧ most ≤ 12 ∧ 1 ≤ m ∧ m ≤ 5 ∧ NewL hd H Q fun cs => cs.length ≤ 12 ∧ In 1 1000000000 cs ∧ cs.Pairwise (· ≤ ·)
theorem h_l_pool (T : Txt K mg) : Has P w K mg base CX0 4 "_law_pool" P_l_pool spPoolL := by
  obtain ⟨f, fd, g, F⟩ := T.dfn ("_law_pool", 40) (by decide +kernel)
  have h_l_take := h_l_take (P := P) (w := w) (base := base) T
  have h_l_rising := h_l_rising (P := P) (w := w) (base := base) T
  have h_l_spoilt := h_l_spoilt (P := P) (w := w) (base := base) T
  have h_l_great := h_l_great (P := P) (w := w) (base := base) T
  have h_l_small := h_l_small (P := P) (w := w) (base := base) T
  refine ⟨f, fd, g, F.kp, F.bindsN (fun _ _ _ _ _ _ us hl => match us, hl with | [_, _, _], _ => rfl), F.ok sc_l_pool (fun vs H Q E h => ?_) fun cdv A outer s H vs Q E hr h => ?_⟩
  · obtain ⟨hd, most, m, rfl, _⟩ := h
    rfl
  · obtain ⟨hd, most, m, rfl, hs, t0, t1, m0, m1, k⟩ := h
    refine ⟨_, PSs.nox (pss_cons (ps_set (i := 3) sc_l_pool.nd rfl (Or.inl rfl) (pe_callB (call_max2 rfl) rfl (T.free "max" (by decide)) (by decide +kernel) (pa_cons (pe_has h_l_take hr (by decide) (pa_cons (pv 0) (pa_cons (pe_op op_add (pv 1) pe_int) pa_nil))) (pa_cons (pe_has h_l_take hr (by decide) (pa_cons (pv 0) (pa_cons (pe_op op_add (pv 1) pe_int) pa_nil))) pa_nil))))
  (pss_cons (ps_set (i := 4) sc_l_pool.nd rfl (Or.inl rfl) (pe_has h_l_take hr (by decide) (pa_cons (pv 0) (pa_cons pe_int pa_nil))))
  (Evl.pss_cut (ps_if (pt_cmpR op_lt (pv 4) pe_int (nomark _))
    (pss_one (ps_set (i := 5) sc_l_pool.nd rfl (Or.inl rfl) (pe_has h_l_rising hr (by decide) (pa_cons (pv 0) (pa_cons (pv 3) (pa_cons (pv 2) pa_nil))))))
    (pss_one (ps_if (pt_cmpR op_lt (pv 4) pe_int (nomark _))
      (pss_one (ps_set (i := 5) sc_l_pool.nd rfl (Or.inl rfl) (pe_has h_l_spoilt hr (by decide) (pa_cons (pv 0) (pa_cons (pe_has h_l_rising hr (by decide) (pa_cons (pv 0) (pa_cons (pe_callB (call_max2 rfl) rfl (T.free "max" (by decide)) (by decide +kernel) (pa_cons (pe_op op_sub (pv 3) pe_int) (pa_cons pe_int pa_nil))) (pa_cons (pv 2) pa_nil)))) (pa_cons (pv 2) pa_nil))))))
      (pss_one (ps_if (pt_cmpR op_eq (pv 4) pe_int (nomark _))
        (pss_cons (ps_set (i := 6) sc_l_pool.nd rfl (Or.inr rfl) (pe_op op_add pe_int (pe_has h_l_take hr (by decide) (pa_cons (pv 0) (pa_cons (pe_op op_pow pe_int pe_int) pa_nil)))))
        (pss_one (ps_setLc (i := 5) (own := [("_law_coin", 7)]) (g := gName 7) (tt := tYes) rfl sc_l_pool.nd rfl rfl (sw_true rfl rfl rfl (by decide +kernel)) (pi_list (pe_has h_l_rising hr (by decide) (pa_cons (pv 0) (pa_cons (pv 3) (pa_cons (pv 2) pa_nil))))) (blkOk_by (N := N_l_pool) (sc := defScope s_l_pool) (by decide +kernel)) (fun _ _ _ _ _ => pg_name (i := 7) sc_l_pool.nd rfl (Or.inl rfl)) (fun _ _ _ _ _ => pts_nil) (fun _ _ _ _ _ => (pe_op op_mul (pv 7) (pv 6))))))
        (pss_one (ps_if (pt_cmpR op_eq (pv 4) pe_int (nomark _))
          (pss_one (ps_set (i := 5) sc_l_pool.nd rfl (Or.inl rfl) (pe_has h_l_great hr (by decide) (pa_cons (pv 0) (pa_cons (pv 3) pa_nil)))))
          (pss_one (ps_set (i := 5) sc_l_pool.nd rfl (Or.inl rfl) (pe_has h_l_small hr (by decide) (pa_cons (pv 0) (pa_cons (pv 3) pa_nil))))))))))))
  (pss_one (ps_ret (pe_callB cr_sortedQ rfl (T.free "sorted" (by decide)) (by decide +kernel) (pa_cons (pv 5) pa_nil)))))))
    , ?_⟩
    refine ⟨_, rfl, _, rfl, _, _, rfl, rfl, hd, _, rfl, hs, by omega, by omega, fun r1 H1 a0 a1 s1 k1 => ?_⟩
    refine ⟨_, rfl, _, rfl, _, _, rfl, rfl, hd, _, rfl, s1, by omega, by omega, fun r2 H2 b0 b1 s2 k2 => ⟨_, _, rfl, ?_⟩⟩
    have hmx : ∃ many : Int, (if r2 > r1 then r2 else r1) = many ∧ 0 ≤ many ∧ many ≤ 12 := ⟨_, rfl, by split <;> omega, by split <;> omega⟩
    obtain ⟨many, e, q0, q1⟩ := hmx
    rw [e]
    refine ⟨_, rfl, hd, _, rfl, s2, by decide, by decide, fun way H3 w0 w1 s3 k3 => ?_⟩
    have kk := (k1.trans k2).trans k3
    refine ⟨fun σ' H' => ∃ (a : Addr) (cs : List Int) (x6 : Option V), σ' = [some (.ref hd.1), some (.int most), some (.int m), some (.int many), some (.int way), some (.ref a), x6, none] ∧ H' a = some (.lst (cs.map V.int)) ∧ St hd H' ∧ Kh hd.1 H H' ∧ cs.length ≤ 12 ∧ In 1 1000000000 cs, ?_, ?_⟩
    · refine ⟨_, rfl, _, _, rfl, rfl, _, rfl, ?_⟩
      refine if_dec (fun c => ?_) fun c => ?_
      · refine ⟨_, rfl, _, rfl, _, rfl, hd, _, _, rfl, s3, q0, q1, m0, m1, fun p H4 cs np s4 k4 hp _ _ hc => ?_⟩
        exact ⟨p, cs, none, rfl, hp, s4, kk.trans k4, by omega, hc.2.mono (Int.le_refl _) (by decide)⟩
      · refine ⟨_, rfl, _, _, rfl, rfl, _, rfl, ?_⟩
        refine if_dec (fun c => ?_) fun c => ?_
        · refine ⟨_, rfl, _, rfl, _, rfl, _, _, rfl, rfl, _, _, rfl, _, rfl, ?_⟩
          have hmx : ∃ mm : Int, (if 0 > many - 1 then 0 else many - 1) = mm ∧ 0 ≤ mm ∧ mm ≤ 11 := ⟨_, rfl, by split <;> omega, by split <;> omega⟩
          obtain ⟨mm, e2, q2, q3⟩ := hmx
          rw [e2]
          refine ⟨hd, _, _, rfl, s3, q2, by omega, m0, m1, fun p H4 cs np s4 k4 hp _ _ hc => ?_⟩
          refine ⟨_, rfl, hd, p, _, cs, rfl, s4, hp, by omega, hc.2, m0, m1, fun p2 H5 ds np2 s5 k5 hp2 _ _ hd5 => ?_⟩
          exact ⟨p2, ds, none, rfl, hp2, s5, (kk.trans k4).trans k5, hd5.1, hd5.2⟩
        · refine ⟨_, rfl, rfl, _, rfl, ?_⟩
          refine if_eqI (fun c => ?_) fun c => ?_
          · refine ⟨_, rfl, _, _, rfl, rfl, ⟨by decide, by decide, by decide⟩, hd, _, rfl, s3, by decide, by decide, fun r H4 r0 r1 s4 k4 => ⟨_, _, rfl, rfl, ?_⟩⟩
            have r1 : r < 100000 := r1
            refine ⟨_, rfl, _, rfl, _, rfl, hd, _, _, rfl, s4, q0, q1, m0, m1, fun p H5 cs np s5 k5 hp ph pc hc => ?_⟩
            refine ⟨p, rfl, ⟨_, SqL.of hp⟩, fun D nD => lc_list (K := K) (a := p) (xs := cs.map V.int) (fun i H6 => Drawn hd H5 1 1000000000 D i H6) ⟨[], upd_same, s5.new nD, Kh.new nD, rfl, In.nil⟩ (fun i H6 _ ⟨_, _, _, k6, _⟩ => SqL.of (k6 _ _ ph hp)) ?_ ?_⟩
            · intro i v H6 hi dr
              obtain ⟨c1, hc1, rfl⟩ := at_map hi
              obtain ⟨_, h1, h2, h3, h4, h5⟩ := id dr
              have hcm := hc.2 c1 (List.mem_of_getElem? hc1)
              have hlt : i < cs.length := (List.getElem?_eq_some_iff.mp hc1).1
              refine ⟨rfl, ?_⟩
              refine ⟨_, rfl, _, rfl, _, _, rfl, rfl, .inl ⟨by omega, by omega⟩, ?_⟩
              have z1 : 1 ≤ c1 * (2 + r) := by
                have := Int.mul_le_mul hcm.1 (show (1 : Int) ≤ 2 + r by omega) (by decide) (by omega)
                omega
              have z2 : c1 * (2 + r) ≤ 1000000000 := by
                have := Int.mul_le_mul hcm.2 (show 2 + r ≤ 100001 by omega) (by omega) (by decide)
                omega
              exact dr.put nD (s5.ne nD) (s5.nc nD) h2 (Kh.refl _ _) (by omega) z1 z2
            · rintro H6 ⟨ds, h1, h2, h3, h4, h5⟩
              rw [List.length_map] at h4
              exact ⟨D, ds, _, rfl, h1, h2, ((kk.trans k4).trans k5).trans h3, by omega, h5⟩
          · refine ⟨_, rfl, rfl, _, rfl, ?_⟩
            refine if_eqI (fun c => ?_) fun c => ?_
            · refine ⟨_, rfl, _, rfl, hd, _, rfl, s3, q0, q1, fun p H4 cs np s4 k4 hp _ _ hc => ?_⟩
              exact ⟨p, cs, none, rfl, hp, s4, kk.trans k4, by omega, hc.2⟩
            · refine ⟨_, rfl, _, rfl, hd, _, rfl, s3, q0, q1, fun p H4 cs np s4 k4 hp _ _ hc => ?_⟩
              exact ⟨p, cs, none, rfl, hp, s4, kk.trans k4, by omega, hc.2⟩
    · rintro σ' H' ⟨a, cs, x6, rfl, ha, s4, k4, hl, hc⟩
      refine ⟨_, rfl, a, false, cs, rfl, SqL.of ha, by omega, fun ms p perm asc np => ?_⟩
      exact k p _ ms (k4.none s4 np) (s4.new np) (k4.trans (Kh.new np)) upd_same (s4.ne np) (s4.nc np) ⟨by rw [perm.length_eq]; exact hl, hc.perm perm, asc⟩
def spGiven : Sp := fun vs H Q _ => ∃ (hd : Hd) (a : Addr) (cs : List Int), vs = [.ref hd.1, .ref a] ∧ St hd H ∧ H a = some (.lst (cs.map V.int)) ∧ a ≠ hd.1 ∧ cs.length ≤ 12 ∧
  ∀ (p : Addr) (b : Bool) (H' : Hp) (ns : List Int), H p = none → St hd H' → Kh hd.1 H H' → SqH b H' p (ns.map V.int) → ns.Perm cs → p ≠ hd.1 → Q (.ref p) H'
theorem h_l_given (T : Txt K mg) : Has P w K mg base CX0 3 "_law_given" P_l_given spGiven := by
  obtain ⟨f, fd, g, F⟩ := T.dfn ("_law_given", 41) (by decide +kernel)
  have h_l_take := h_l_take (P := P) (w := w) (base := base) T
  refine ⟨f, fd, g, F.kp, F.bindsN (fun _ _ _ _ _ _ us hl => match us, hl with | [_, _], _ => rfl), F.ok sc_l_given (fun vs H Q E h => ?_) fun cdv A outer s H vs Q E hr h => ?_⟩
  · obtain ⟨hd, a, cs, rfl, _⟩ := h
    rfl
  · obtain ⟨hd, a, cs, rfl, hs, ha, ah, hl, k⟩ := h
    refine ⟨_, PSs.nox (pss_cons (ps_set (i := 2) sc_l_given.nd rfl (Or.inl rfl) (pe_lst pa_nil))
  (pss_cons (ps_for PassesOwn.never rfl (pi_list (pv 1)) (pg_name (i := 3) sc_l_given.nd rfl (Or.inl rfl))
    (pss_one (ps_expr (pe_bm PySem.F.plainAttrs_list PySem.F.slot_list_insert PySem.F.type_list_insert mt_insert (pv 2) (pa_cons (pe_has h_l_take hr (by decide) (pa_cons (pv 0) (pa_cons (pe_op op_add (pe_callB call_len_seq rfl (T.free "len" (by decide)) (by decide +kernel) (pa_cons (pv 2) pa_nil)) pe_int) pa_nil))) (pa_cons (pv 3) pa_nil))))))
  (pss_one (ps_ret (pe_ifExp (pt_truth (pe_has h_l_take hr (by decide) (pa_cons (pv 0) (pa_cons pe_int pa_nil))) (by intro _; rfl)) (pe_callTy call_tuple_of rfl (T.free "tuple" (by decide)) (by decide +kernel) (pa_cons (pv 2) pa_nil)) (pv 2))))))
    , ?_⟩
    refine ⟨Evl.sz_of (show (0 : Nat) ≤ _ from by decide), fun p np => ?_⟩
    have ph := hs.ne np
    have pc := hs.nc np
    refine ⟨_, rfl, a, rfl, ⟨_, SqL.of (Kh.new np a _ ah ha)⟩, for_list (K := K) (a := a) (xs := cs.map V.int) (fun i σ H1 => ∃ (ns : List Int) (x : Option V), σ = [some (.ref hd.1), some (.ref a), some (.ref p), x] ∧ H1 p = some (.lst (ns.map V.int)) ∧ St hd H1 ∧ Kh hd.1 H H1 ∧ ns.Perm (cs.take i))
      ⟨[], none, rfl, upd_same, hs.new np, Kh.new np, by simp⟩ (fun i σ H1 _ ⟨_, _, _, _, _, k1, _⟩ => SqL.of (k1 a _ ah ha)) ?_ ?_⟩
    · rintro i v σ H1 hi ⟨ns, x, rfl, hp, s1, k1, pm⟩
      obtain ⟨c, hc, rfl⟩ := at_map hi
      have hlt : i < cs.length := (List.getElem?_eq_some_iff.mp hc).1
      have hnl : ns.length = i := by
        rw [pm.length_eq, List.length_take]
        omega
      refine ⟨_, rfl, .inl ⟨rfl, _, SqL.of hp⟩, _, rfl, _, rfl, p, _, rfl, .inl (SqL.of hp), _, _, rfl, rfl, hd, _, rfl, s1, by omega, by rw [List.length_map]; omega, fun r H2 r0 r1 s2 k2 => ?_⟩
      have hp2 := k2 _ _ ph hp
      rw [List.length_map] at r1
      obtain ⟨j, rfl⟩ := Int.eq_ofNat_of_zero_le r0
      refine ⟨_, rfl, p, _, _, _, rfl, rfl, hp2, Evl.sz_lt (by rw [List.length_map]; omega), r0, by omega, ?_⟩
      refine ⟨ns.take j ++ [c] ++ ns.drop j, _, rfl, ?_, s2.mut ph pc, (k1.trans k2).mut np, ?_⟩
      · rw [upd_same, Int.toNat_natCast, List.map_append, List.map_append, List.map_take, List.map_drop]
        rfl
      · have e : cs.take (i + 1) = cs.take i ++ [c] := by
          rw [List.take_add_one, hc]
          rfl
        rw [e]
        refine List.Perm.trans ?_ (pm.append_right [c])
        have h1 : (ns.take j ++ [c] ++ ns.drop j).Perm (c :: (ns.take j ++ ns.drop j)) := by
          rw [List.append_assoc]
          exact List.perm_middle
        rw [List.take_append_drop] at h1
        exact h1.trans (List.perm_append_comm (l₁ := [c]) (l₂ := ns))
    · rintro σ H1 ⟨ns, x, rfl, hp, s1, k1, pm⟩
      rw [List.length_map, List.take_length] at pm
      refine ⟨_, rfl, hd, _, rfl, s1, by decide, by decide, fun r H2 r0 r1 s2 k2 => ⟨_, rfl, ?_⟩⟩
      have hp2 := k2 _ _ ph hp
      cases hb : (r != 0) with
      | true =>
        refine ⟨_, rfl, p, _, rfl, .inl ⟨SqL.of hp2, fun q nq => ?_⟩⟩
        exact k q true _ ns ((k1.trans k2).none s2 nq) (s2.new nq) ((k1.trans k2).trans (Kh.new nq)) upd_same pm (s2.ne nq)
      | false => exact ⟨_, rfl, k p false H2 ns np s2 (k1.trans k2) hp2 pm ph⟩
end
end K12

set_option Elab.async false
set_option linter.all false
set_option maxRecDepth 100000
set_option maxHeartbeats 4000000
/-! Failing places, wishes. -/
namespace K12
open PySem PySem.Spec PyProof.Rows L2 K12L
local macro_rules | `(tactic| walk_at "rd") => `(tactic| repeat (first | (with_reducible exact trivial) | refine ⟨_, rfl, ?_⟩ | refine ⟨_, _, rfl, rfl, ?_⟩ | refine Or.inl ⟨_, rfl, ?_⟩ | refine ⟨Or.inr ⟨by decide, by decide⟩, ?_⟩ | refine ⟨Or.inl ⟨by omega, by omega⟩, ?_⟩ | refine ⟨⟨by decide, by decide +kernel⟩, ?_⟩ | refine ⟨(show (0 : Int) < _ from by decide), ?_⟩ | refine ⟨(show (0 : Int) < _ from by omega), ?_⟩ | refine ⟨cdivW (by omega) (by omega), ?_⟩ | refine ⟨_, _, _, _, rfl, rfl, SqL.of (by first | assumption | exact upd_same), by rfl, ?_⟩ | refine ⟨_, _, _, _, rfl, rfl, (by first | assumption | exact upd_same), by rfl, ?_⟩ | refine ⟨_, _, rfl, Or.inl (SqL.of (by first | assumption | exact upd_same)), ?_⟩ | refine ⟨Or.inl ⟨rfl, _, SqL.of (by first | assumption | exact upd_same)⟩, ?_⟩ | refine ⟨_, _, _, rfl, rfl, (by first | assumption | exact upd_same), (Evl.sz_lt (by first | omega | (simp only [List.length_map]; omega))), ?_⟩ | refine ⟨rfl, ?_⟩))
/-- the places that fail -/
def failsI (m : Int) (cs : List Int) (n : Nat) : List Nat := (List.range n).filter fun k => decide ((cs.take (k + 1)).sum ≤ m * (cs.getD k 0 - 1))
theorem failsI_succ (m : Int) (cs : List Int) (n : Nat) : failsI m cs (n + 1) = if (cs.take (n + 1)).sum ≤ m * (cs.getD n 0 - 1) then failsI m cs n ++ [n] else failsI m cs n := by
  unfold failsI
  rw [List.range_succ, List.filter_append]
  by_cases h : (cs.take (n + 1)).sum ≤ m * (cs.getD n 0 - 1)
  · rw [if_pos h, List.filter_cons_of_pos (p := fun k => decide ((cs.take (k + 1)).sum ≤ m * (cs.getD k 0 - 1))) (decide_eq_true h)]
    rfl
  · rw [if_neg h, List.filter_cons_of_neg (p := fun k => decide ((cs.take (k + 1)).sum ≤ m * (cs.getD k 0 - 1))) (by rw [decide_eq_false h]; decide)]
    exact List.append_nil _
theorem parts_len : ∀ (n : Nat) (L : Int), (Hand.parts n L).length = n
  | 0, _ => rfl
  | n + 1, L => by
    unfold Hand.parts
    rw [List.length_cons, parts_len n]
theorem failsI_len (m : Int) (cs : List Int) (n : Nat) : (failsI m cs n).length ≤ n := by
  unfold failsI
  refine Nat.le_trans (List.length_filter_le _ _) ?_
  simp
theorem take_snoc {cs : List Int} {i : Nat} {c : Int} (h : cs[i]? = some c) : cs.take (i + 1) = cs.take i ++ [c] := by
  rw [List.take_add_one, h]
  rfl
/-- no place fails: the pool serves -/
theorem serve_of {m : Int} {cs : List Int} (h : failsI m cs cs.length = []) : ∀ k, k ≤ cs.length → Hand.Serve m (cs.take k).reverse
  | 0, _ => by simp [Hand.Serve]
  | k + 1, hk => by
    have hlt : k < cs.length := hk
    have e : cs[k]? = some cs[k] := List.getElem?_eq_getElem hlt
    have i := serve_of h k (Nat.le_of_lt hlt)
    have z : k ∉ failsI m cs cs.length := by rw [h]; simp
    unfold failsI at z
    rw [List.mem_filter, List.mem_range, decide_eq_true_iff, Hand.getD_lt hlt] at z
    have es : ((cs.take (k + 1)).reverse).sum = (cs.take (k + 1)).sum := List.sum_reverse ..
    rw [take_snoc e, List.reverse_append, List.reverse_singleton, List.singleton_append] at es ⊢
    rw [take_snoc e] at z
    refine ⟨?_, i⟩
    rw [es]
    have z2 : ¬ ((cs.take k ++ [cs[k]]).sum ≤ m * (cs[k] - 1)) := fun z3 => z ⟨hlt, z3⟩
    omega
/-- the hard wish -/
def hardW (m : Int) (cs : List Int) (k : Nat) : List Int := (Hand.up (cs.take (k + 1)).sum m + (cs.drop (k + 1)).sum) :: Hand.parts (m - 1).toNat ((cs.take (k + 1)).sum - Hand.up (cs.take (k + 1)).sum m)
section
variable {P : Program} {w : World} {K : PySem.W.Frag} {mg : Str → Option Value} {base : Heap}
def spFails : Sp := fun vs H Q _ => ∃ (a : Addr) (m : Int) (cs : List Int), vs = [.ref a, .int m] ∧ H a = some (.lst (cs.map V.int)) ∧ 1 ≤ m ∧ m ≤ 5 ∧ cs.length ≤ 12 ∧ ∀ (p : Addr) (H' : Hp), H p = none → Same H H' → H' p = some (.lst ((failsI m cs cs.length).map fun (k : Nat) => V.int (k : Int))) → Q (.ref p) H'
theorem h_l_fails (T : Txt K mg) : Has P w K mg base CX0 1 "_law_fails" P_l_fails spFails := by
  obtain ⟨f, fd, g, F⟩ := T.dfn ("_law_fails", 42) (by decide +kernel)
  refine ⟨f, fd, g, F.kp, F.bindsN (fun _ _ _ _ _ _ us hl => match us, hl with | [_, _], _ => rfl), F.ok sc_l_fails (fun vs H Q E h => ?_) fun cdv A outer s H vs Q E hr h => ?_⟩
  · obtain ⟨a, m, cs, rfl, _⟩ := h
    rfl
  · obtain ⟨a, m, cs, rfl, ha, m0, m1, hl, k⟩ := h
    refine ⟨_, PSs.nox (pss_cons (ps_set (i := 2) sc_l_fails.nd rfl (Or.inl rfl) (pe_lst pa_nil))
  (pss_cons (ps_set (i := 3) sc_l_fails.nd rfl (Or.inl rfl) pe_int)
  (pss_cons (ps_for PassesOwn.never rfl (pi_enumQ rfl (T.free "enumerate" (by decide)) (pa_cons (pv 0) pa_nil)) (pg_tup rfl (pgs_cons (pg_name (i := 4) sc_l_fails.nd rfl (Or.inl rfl)) (pgs_cons (pg_name (i := 5) sc_l_fails.nd rfl (Or.inl rfl)) pgs_nil)))
    (pss_cons (ps_set (i := 3) sc_l_fails.nd rfl (Or.inl rfl) (pe_op op_add (pv 3) (pv 5)))
    (pss_one (ps_if (pt_cmpR op_ge (pe_op op_mul (pv 1) (pe_op op_sub (pv 5) pe_int)) (pv 3) (nomark _))
      (pss_one (ps_expr (pe_bm PySem.F.plainAttrs_list PySem.F.slot_list_append PySem.F.type_list_append mt_append (pv 2) (pa_cons (pv 4) pa_nil))))
      pss_nil))))
  (pss_one (ps_ret (pv 2))))))
    , ?_⟩
    refine ⟨Evl.sz_of (show (0 : Nat) ≤ _ from by decide), fun p np => ?_⟩
    refine ⟨_, rfl, a, false, _, rfl, SqL.of (Same.new np _ _ ha), for_it (walk_enumQ false) (fun i σ H1 => ∃ (x y : Option V), σ = [some (.ref a), some (.int m), some (.ref p), some (.int (cs.take i).sum), x, y] ∧ H1 p = some (.lst ((failsI m cs i).map fun (k : Nat) => V.int (k : Int))) ∧ Same H H1)
      ⟨none, none, rfl, upd_same, Same.new np⟩ (fun i σ H1 _ ⟨_, _, _, _, s1⟩ => SqL.of (s1 _ _ ha)) ?_ ?_⟩
    · rintro i v σ H1 H2 hi ⟨x, y, rfl, hp, s1⟩ ⟨T, z, u, rfl, hT, rfl, e1, e2⟩
      cases Option.some.inj e1
      obtain ⟨c, hc, rfl⟩ := at_map e2
      have hlt : i < cs.length := (List.getElem?_eq_some_iff.mp hc).1
      have hcd : cs.getD i 0 = c := by rw [Hand.getD_lt hlt]; exact (List.getElem?_eq_some_iff.mp hc).2
      refine ⟨_, _, rfl, SqT.of upd_same, rfl, _, _, rfl, _, _, rfl, rfl, ?_⟩
      have hp2 := Same.new (o := .tup [.int (i : Int), .int c]) hT _ _ hp
      have s2 := s1.trans (Same.new (o := .tup [.int (i : Int), .int c]) hT)
      refine ⟨_, rfl, _, rfl, _, _, rfl, rfl, ?_⟩
      refine ⟨_, rfl, _, rfl, _, _, rfl, rfl, _, _, rfl, rfl, .inl ⟨by omega, by omega⟩, _, rfl, _, _, rfl, rfl, _, rfl, ?_⟩
      have es : (cs.take i).sum + c = (cs.take (i + 1)).sum := by
        rw [take_snoc hc, List.sum_append]
        simp
      have ef := failsI_succ m cs i
      rw [hcd] at ef
      rw [es]
      refine if_dec (fun c1 => ?_) fun c1 => ?_
      · rw [if_pos c1] at ef
        refine ⟨_, rfl, .inl ⟨rfl, _, SqL.of hp2⟩, _, rfl, p, _, _, rfl, rfl, hp2, Evl.sz_lt (by rw [List.length_map]; have := failsI_len m cs i; omega), ?_⟩
        refine ⟨_, _, by rw [← es]; rfl, ?_, s2.mut np⟩
        rw [upd_same, ef, List.map_append]
        rfl
      · rw [if_neg c1] at ef
        exact ⟨_, _, by rw [← es]; rfl, by rw [ef]; exact hp2, s2⟩
    · rintro σ H1 ⟨x, y, rfl, hp, s1⟩
      rw [List.length_map] at hp
      exact ⟨_, rfl, k p H1 np s1 hp⟩
def spParts : Sp := fun vs H Q _ => ∃ (t n : Int), vs = [.int t, .int n] ∧ 0 ≤ n ∧ n ≤ 4 ∧ ∀ (p : Addr) (H' : Hp), H p = none → Same H H' → H' p = some (.tup ((Hand.parts n.toNat t).map V.int)) → Q (.ref p) H'
theorem h_l_parts (T : Txt K mg) : Has P w K mg base CX0 2 "_law_parts" P_l_parts spParts := by
  obtain ⟨f, fd, g, F⟩ := T.dfn ("_law_parts", 43) (by decide +kernel)
  have h_l_up := h_l_up (P := P) (w := w) (base := base) T
  refine ⟨f, fd, g, F.kp, F.bindsN (fun _ _ _ _ _ _ us hl => match us, hl with | [_, _], _ => rfl), F.ok sc_l_parts (fun vs H Q E h => ?_) fun cdv A outer s H vs Q E hr h => ?_⟩
  · obtain ⟨t, n, rfl, _⟩ := h
    rfl
  · obtain ⟨t, n, rfl, n0, n1, k⟩ := h
    refine ⟨_, PSs.nox (pss_cons (ps_set (i := 2) sc_l_parts.nd rfl (Or.inl rfl) (pe_lst pa_nil))
  (pss_cons (ps_set (i := 3) sc_l_parts.nd rfl (Or.inl rfl) (pv 0))
  (pss_cons (ps_for PassesOwn.never rfl (pi_range1 rfl (T.free "range" (by decide)) (pa_cons (pv 1) pa_nil)) (pg_name (i := 4) sc_l_parts.nd rfl (Or.inl rfl))
    (pss_cons (ps_set (i := 5) sc_l_parts.nd rfl (Or.inl rfl) (pe_has h_l_up hr (by decide) (pa_cons (pv 3) (pa_cons (pe_op op_sub (pv 1) (pv 4)) pa_nil))))
    (pss_cons (ps_expr (pe_bm PySem.F.plainAttrs_list PySem.F.slot_list_append PySem.F.type_list_append mt_append (pv 2) (pa_cons (pv 5) pa_nil)))
    (pss_one (ps_set (i := 3) sc_l_parts.nd rfl (Or.inl rfl) (pe_op op_sub (pv 3) (pv 5)))))))
  (pss_one (ps_ret (pe_callTy call_tuple_of rfl (T.free "tuple" (by decide)) (by decide +kernel) (pa_cons (pv 2) pa_nil)))))))
    , ?_⟩
    refine ⟨Evl.sz_of (show (0 : Nat) ≤ _ from by decide), fun p np => ?_⟩
    refine ⟨_, rfl, _, rfl, n, rfl, by omega, by omega, for_range (lo := 0) (n := n.toNat) (fun i σ H1 => ∃ (l : Int) (cs : List Int) (x y : Option V), σ = [some (.int t), some (.int n), some (.ref p), some (.int l), x, y] ∧ H1 p = some (.lst (cs.map V.int)) ∧ Same H H1 ∧ cs.length = i ∧ cs ++ Hand.parts (n.toNat - i) l = Hand.parts n.toNat t)
      ⟨t, [], none, none, rfl, upd_same, Same.new np, rfl, by simp⟩ ?_ ?_⟩
    · rintro i σ H1 hi ⟨l, cs, x, y, rfl, hp, s1, hl, he⟩
      refine ⟨_, rfl, _, rfl, _, rfl, _, _, rfl, rfl, _, _, rfl, by omega, by omega, ?_⟩
      refine ⟨_, rfl, .inl ⟨rfl, _, SqL.of hp⟩, _, rfl, p, _, _, rfl, rfl, hp, Evl.sz_lt (by rw [List.length_map]; omega), ?_⟩
      refine ⟨_, rfl, _, rfl, _, _, rfl, rfl, ?_⟩
      have en : n.toNat - i = (n.toNat - (i + 1)) + 1 := by omega
      have e2 : ((n.toNat - (i + 1) : Nat) : Int) + 1 = n - (0 + (i : Int)) := by omega
      rw [en] at he
      have eu : (l + (n - (0 + (i : Int))) - 1) / (n - (0 + (i : Int))) = Hand.up l (((n.toNat - (i + 1) : Nat) : Int) + 1) := by
        rw [e2]
        rfl
      refine ⟨_, cs ++ [Hand.up l (((n.toNat - (i + 1) : Nat) : Int) + 1)], _, _, rfl, by rw [upd_same, eu, ← map_snoc], s1.mut np, by rw [List.length_append, hl] <;> rfl, ?_⟩
      rw [eu, List.append_assoc]
      exact he
    · rintro σ H1 ⟨l, cs, x, y, rfl, hp, s1, hl, he⟩
      rw [Nat.sub_self] at he
      have he : cs ++ [] = Hand.parts n.toNat t := he
      rw [List.append_nil] at he
      rw [he] at hp
      refine ⟨_, rfl, p, _, rfl, .inl ⟨SqL.of hp, fun q nq => ?_⟩⟩
      exact k q _ (s1.free nq) (s1.trans (Same.new nq)) upd_same
def spHardW : Sp := fun vs H Q _ => ∃ (a : Addr) (m : Int) (j : Nat) (cs : List Int), vs = [.ref a, .int m, .int (j : Int)] ∧ H a = some (.lst (cs.map V.int)) ∧ 1 ≤ m ∧ m ≤ 5 ∧ cs.length ≤ 12 ∧ ∀ (p : Addr) (H' : Hp), H p = none → Same H H' → H' p = some (.tup ((hardW m cs j).map V.int)) → Q (.ref p) H'
theorem h_l_hard_wish (T : Txt K mg) : Has P w K mg base CX0 3 "_law_hard_wish" P_l_hard_wish spHardW := by
  obtain ⟨f, fd, g, F⟩ := T.dfn ("_law_hard_wish", 44) (by decide +kernel)
  have h_l_up := h_l_up (P := P) (w := w) (base := base) T
  have h_l_parts := h_l_parts (P := P) (w := w) (base := base) T
  refine ⟨f, fd, g, F.kp, F.bindsN (fun _ _ _ _ _ _ us hl => match us, hl with | [_, _, _], _ => rfl), F.ok sc_l_hard_wish (fun vs H Q E h => ?_) fun cdv A outer s H vs Q E hr h => ?_⟩
  · obtain ⟨a, m, j, cs, rfl, _⟩ := h
    rfl
  · obtain ⟨a, m, j, cs, rfl, ha, m0, m1, hl, k⟩ := h
    refine ⟨_, PSs.nox (pss_cons (ps_set (i := 3) sc_l_hard_wish.nd rfl (Or.inl rfl) (pe_callB (cr_sum rfl) rfl (T.free "sum" (by decide)) (by decide +kernel) (pa_cons (pe_slice sl_list (pv 0) po_none (po_some (pe_op op_add (pv 2) pe_int))) pa_nil)))
  (pss_cons (ps_set (i := 4) sc_l_hard_wish.nd rfl (Or.inl rfl) (pe_has h_l_up hr (by decide) (pa_cons (pv 3) (pa_cons (pv 1) pa_nil))))
  (pss_one (ps_ret (pe_op op_catA (pe_tup (pa_cons (pe_op op_add (pv 4) (pe_callB (cr_sum rfl) rfl (T.free "sum" (by decide)) (by decide +kernel) (pa_cons (pe_slice sl_list (pv 0) (po_some (pe_op op_add (pv 2) pe_int)) po_none) pa_nil))) pa_nil)) (pe_has h_l_parts hr (by decide) (pa_cons (pe_op op_sub (pv 3) (pv 4)) (pa_cons (pe_op op_sub (pv 1) pe_int) pa_nil))))))))
    , ?_⟩
    refine ⟨_, rfl, _, rfl, _, _, rfl, rfl, _, rfl, a, _, rfl, SqL.of ha, fun p np => ?_⟩
    rw [cut_map]
    have ej : ((j : Int) + 1) = ((j + 1 : Nat) : Int) := by omega
    rw [ej, cutI_to]
    have ha1 := Same.new (o := .lst ((cs.take (j + 1)).map V.int)) np _ _ ha
    refine ⟨p, _, rfl, SqL.of upd_same, ?_⟩
    refine ⟨_, rfl, _, rfl, _, _, rfl, m0, by omega, ?_⟩
    refine ⟨_, rfl, _, rfl, _, rfl, _, _, rfl, rfl, _, rfl, a, _, rfl, SqL.of ha1, fun p2 np2 => ?_⟩
    rw [cut_map]
    rw [ej, cutI_from]
    have s2 := (Same.new (o := .lst ((cs.take (j + 1)).map V.int)) np).trans (Same.new (o := .lst ((cs.drop (j + 1)).map V.int)) np2)
    refine ⟨p2, _, rfl, SqL.of upd_same, _, _, rfl, rfl, Evl.sz_of (show (1 : Nat) ≤ _ from by decide), fun q nq => ?_⟩
    refine ⟨_, rfl, _, rfl, _, _, rfl, rfl, _, rfl, _, _, rfl, rfl, _, _, rfl, by omega, by omega, fun q2 H3 nq2 s3 hq2 => ?_⟩
    have hq := s3 _ _ upd_same
    have s4 := (s2.trans (Same.new nq)).trans s3
    have hpl := parts_len (m - 1).toNat ((cs.take (j + 1)).sum - Hand.up (cs.take (j + 1)).sum m)
    refine ⟨q, q2, _, _, rfl, rfl, SqT.of hq, SqT.of hq2, Evl.sz_of ?_, fun z => absurd z (List.cons_ne_nil _ _), fun _ z => ?_, fun _ _ p3 np3 => ?_⟩
    · rw [List.length_map]
      show 1 + (Hand.parts (m - 1).toNat ((cs.take (j + 1)).sum - Hand.up (cs.take (j + 1)).sum m)).length ≤ _
      omega
    · refine k q _ (s2.free nq) s4 ?_
      rw [hq]
      unfold hardW
      have z2 : Hand.parts (m - 1).toNat ((cs.take (j + 1)).sum - Hand.up (cs.take (j + 1)).sum m) = [] := List.map_eq_nil_iff.mp z
      rw [z2]
      rfl
    · refine k p3 _ (s4.free np3) (s4.trans (Same.new np3)) ?_
      rw [upd_same]
      rfl
end
end K12

set_option Elab.async false
set_option linter.all false
set_option maxRecDepth 100000
set_option maxHeartbeats 4000000
/-! Drawn splits and wishes. -/
namespace K12
open PySem PySem.Spec PyProof.Rows L2 K12L
local macro_rules | `(tactic| walk_at "rd") => `(tactic| repeat (first | (with_reducible exact trivial) | refine ⟨_, rfl, ?_⟩ | refine ⟨_, _, rfl, rfl, ?_⟩ | refine Or.inl ⟨_, rfl, ?_⟩ | refine ⟨Or.inr ⟨by decide, by decide⟩, ?_⟩ | refine ⟨Or.inl ⟨by omega, by omega⟩, ?_⟩ | refine ⟨⟨by decide, by decide +kernel⟩, ?_⟩ | refine ⟨(show (0 : Int) < _ from by decide), ?_⟩ | refine ⟨(show (0 : Int) < _ from by omega), ?_⟩ | refine ⟨cdivW (by omega) (by omega), ?_⟩ | refine ⟨_, _, _, _, rfl, rfl, SqL.of (by first | assumption | exact upd_same), by rfl, ?_⟩ | refine ⟨_, _, _, _, rfl, rfl, (by first | assumption | exact upd_same), by rfl, ?_⟩ | refine ⟨_, _, rfl, Or.inl (SqL.of (by first | assumption | exact upd_same)), ?_⟩ | refine ⟨Or.inl ⟨rfl, _, SqL.of (by first | assumption | exact upd_same)⟩, ?_⟩ | refine ⟨_, _, _, rfl, rfl, (by first | assumption | exact upd_same), (Evl.sz_lt (by first | omega | (simp only [List.length_map]; omega))), ?_⟩ | refine ⟨rfl, ?_⟩))
/-- tuples of ints, one after the other -/
inductive TupsAt (H : Hp) : List Addr → List (List Int) → Prop
  | nil : TupsAt H [] []
  | cons {q : Addr} {qs : List Addr} {p : List Int} {ps : List (List Int)} (h : H q = some (.tup (p.map V.int))) (r : TupsAt H qs ps) : TupsAt H (q :: qs) (p :: ps)
theorem TupsAt.len {H : Hp} {qs : List Addr} {ps : List (List Int)} (t : TupsAt H qs ps) : qs.length = ps.length := by
  induction t with
  | nil => rfl
  | cons _ _ ih => rw [List.length_cons, List.length_cons, ih]
theorem TupsAt.imp {H H' : Hp} {qs : List Addr} {ps : List (List Int)} (t : TupsAt H qs ps) (h : ∀ a xs, H a = some (.tup xs) → H' a = some (.tup xs)) : TupsAt H' qs ps := by
  induction t with
  | nil => exact .nil
  | cons e _ ih => exact .cons (h _ _ e) ih
theorem TupsAt.at_ {H : Hp} {qs : List Addr} {ps : List (List Int)} (t : TupsAt H qs ps) : ∀ {j : Nat} {q : Addr}, qs[j]? = some q → ∃ p, ps[j]? = some p ∧ H q = some (.tup (p.map V.int)) := by
  induction t with
  | nil =>
    intro j q h
    simp at h
  | cons e _ ih =>
    intro j q h
    cases j with
    | zero =>
      have e2 := Option.some.inj h
      subst e2
      exact ⟨_, rfl, e⟩
    | succ j => exact ih (by simpa using h)
theorem tupsAt_of {H : Hp} : ∀ {qs : List Addr} {ps : List (List Int)}, qs.length = ps.length → (∀ j q, qs[j]? = some q → H q = some (.tup ((ps.getD j []).map V.int))) → TupsAt H qs ps
  | [], [], _, _ => .nil
  | [], p :: ps, h, _ => by cases h
  | q :: qs, [], h, _ => by cases h
  | q :: qs, p :: ps, h, k => .cons (k 0 q rfl) (tupsAt_of (by simpa using h) fun j r hj => k (j + 1) r (by simpa using hj))
theorem TupsAt.snoc {H : Hp} {qs : List Addr} {ps : List (List Int)} {q : Addr} {p : List Int} (t : TupsAt H qs ps) (h : H q = some (.tup (p.map V.int))) : TupsAt H (qs ++ [q]) (ps ++ [p]) := by
  induction t with
  | nil => exact .cons h .nil
  | cons e _ ih => exact .cons e ih
/-- lists of ints that are being filled -/
structure Lz (H0 H : Hp) (hd : Hd) (G : Addr) (qs : List Addr) (ps : List (List Int)) : Prop where
  hG : H G = some (.lst (qs.map V.ref))
  nG : H0 G = none
  Gh : G ≠ hd.1
  Gc : G ≠ hd.2
  nd : qs.Nodup
  len : qs.length = ps.length
  q : ∀ (j : Nat) (q : Addr), qs[j]? = some q → H0 q = none ∧ q ≠ hd.1 ∧ q ≠ hd.2 ∧ q ≠ G ∧ H q = some (.lst ((ps.getD j []).map V.int))
theorem Lz.kh {H0 H H' : Hp} {hd : Hd} {G : Addr} {qs : List Addr} {ps : List (List Int)} (z : Lz H0 H hd G qs ps) (k : Kh hd.1 H H') : Lz H0 H' hd G qs ps :=
  ⟨k _ _ z.Gh z.hG, z.nG, z.Gh, z.Gc, z.nd, z.len, fun j q h => by
    obtain ⟨a, b, c, d, e⟩ := z.q j q h
    exact ⟨a, b, c, d, k _ _ b e⟩⟩
theorem Lz.put {H0 H : Hp} {hd : Hd} {G r : Addr} {qs : List Addr} {ps : List (List Int)} {j : Nat} {ns : List Int} (z : Lz H0 H hd G qs ps) (hr : qs[j]? = some r) :
    Lz H0 (upd H r (.lst (ns.map V.int))) hd G qs (ps.set j ns) := by
  obtain ⟨r1, r2, r3, r4, r5⟩ := z.q j r hr
  have hj : j < qs.length := (List.getElem?_eq_some_iff.mp hr).1
  refine ⟨by rw [upd_ne (Ne.symm r4)]; exact z.hG, z.nG, z.Gh, z.Gc, z.nd, by rw [List.length_set]; exact z.len, fun i q hq => ?_⟩
  obtain ⟨q1, q2, q3, q4, q5⟩ := z.q i q hq
  refine ⟨q1, q2, q3, q4, ?_⟩
  rw [Hand.getD_set _ _ _ _ _ (by rw [← z.len]; exact hj)]
  by_cases e : i = j
  · subst e
    rw [hr] at hq
    cases Option.some.inj hq
    rw [upd_same, if_pos rfl]
  · have ne : q ≠ r := fun zz => by
      rw [zz] at hq
      exact e (nodup_at z.nd hq hr)
    rw [upd_ne ne, if_neg e]
    exact q5
/-- one more empty list, laid at the end -/
theorem Lz.grow {H0 H : Hp} {hd : Hd} {G r : Addr} {qs : List Addr} {ps : List (List Int)} (z : Lz H0 H hd G qs ps) (nr : H r = none) (n0 : H0 r = none) (rh : r ≠ hd.1) (rc : r ≠ hd.2) : Lz H0 (upd (upd H r (.lst [])) G (.lst (qs.map V.ref ++ [V.ref r]))) hd G (qs ++ [r]) (ps ++ [[]]) := by
  have rG : r ≠ G := fun e => by
    have h := z.hG
    rw [← e, nr] at h
    cases h
  refine ⟨by rw [upd_same, map_snoc], z.nG, z.Gh, z.Gc, ?_, by rw [List.length_append, List.length_append, z.len] <;> rfl, fun j q hq => ?_⟩
  · refine List.nodup_append.mpr ⟨z.nd, by simp, fun a ha b hb e => ?_⟩
    rw [List.mem_singleton.mp hb] at e
    obtain ⟨j, hj, e2⟩ := List.mem_iff_getElem.mp ha
    obtain ⟨_, _, _, _, h5⟩ := z.q j a (by rw [List.getElem?_eq_getElem hj, e2])
    rw [e, nr] at h5
    cases h5
  · by_cases e : j < qs.length
    · rw [List.getElem?_append_left e] at hq
      obtain ⟨q1, q2, q3, q4, q5⟩ := z.q j q hq
      refine ⟨q1, q2, q3, q4, ?_⟩
      have e3 : (ps ++ [[]]).getD j [] = ps.getD j [] := by
        rw [List.getD_eq_getElem?_getD, List.getD_eq_getElem?_getD, List.getElem?_append_left (by rw [← z.len]; exact e)]
      rw [e3, upd_ne q4, upd_ne (ne_of_none q5 nr)]
      exact q5
    · rw [List.getElem?_append_right (by omega)] at hq
      have ej : j - qs.length = 0 := by
        have := (List.getElem?_eq_some_iff.mp hq).1
        simp at this
        omega
      rw [ej] at hq
      have er : r = q := by simpa using hq
      subst er
      refine ⟨n0, rh, rc, rG, ?_⟩
      have e3 : (ps ++ [[]]).getD j [] = [] := by
        rw [List.getD_eq_getElem?_getD, List.getElem?_append_right (by rw [← z.len]; omega)]
        have : j - ps.length = 0 := by rw [← z.len]; exact ej
        rw [this]
        rfl
      rw [e3, upd_ne rG, upd_same]
      rfl
section
variable {P : Program} {w : World} {K : PySem.W.Frag} {mg : Str → Option Value} {base : Heap}
def rTupOfS (K : PySem.W.Frag) : List V → Hp → VK → Prop := rTupOf K
def spDSplit : Sp := fun vs H Q _ => ∃ (hd : Hd) (a : Addr) (m : Int) (cs : List Int), vs = [.ref hd.1, .ref a, .int m] ∧ St hd H ∧ H a = some (.lst (cs.map V.int)) ∧ a ≠ hd.1 ∧ cs.length ≤ 12 ∧ In 1 1000000000 cs ∧ 1 ≤ m ∧ m ≤ 5 ∧
  ∀ (p : Addr) (H' : Hp) (qs : List Addr) (ps : List (List Int)), H p = none → St hd H' → Kh hd.1 H H' → H' p = some (.tup (qs.map V.ref)) → TupsAt H' qs ps → (ps.length : Int) = m → (∀ p ∈ ps, ∀ c ∈ p, 0 ≤ c) → (ps.map List.sum).sum = cs.sum → Q (.ref p) H'
theorem sum_set2 : ∀ (ps : List (List Int)) (j : Nat) (v : List Int), j < ps.length → ((ps.set j v).map List.sum).sum = (ps.map List.sum).sum - (ps.getD j []).sum + v.sum
  | [], _, _, h => by simp at h
  | a :: l, 0, v, _ => by simp only [List.set_cons_zero, List.map_cons, List.sum_cons, List.getD_cons_zero]; omega
  | a :: l, j + 1, v, h => by
    have ih := sum_set2 l j v (by simpa using h)
    simp only [List.set_cons_succ, List.map_cons, List.sum_cons, List.getD_cons_succ, ih]
    omega
theorem h_l_drawn_split (T : Txt K mg) : Has P w K mg base CX0 3 "_law_drawn_split" P_l_drawn_split spDSplit := by
  obtain ⟨f, fd, g, F⟩ := T.dfn ("_law_drawn_split", 45) (by decide +kernel)
  have h_l_take := h_l_take (P := P) (w := w) (base := base) T
  refine ⟨f, fd, g, F.kp, F.bindsN (fun _ _ _ _ _ _ us hl => match us, hl with | [_, _, _], _ => rfl), F.ok sc_l_drawn_split (fun vs H Q E h => ?_) fun cdv A outer s H vs Q E hr h => ?_⟩
  · obtain ⟨hd, a, m, cs, rfl, _⟩ := h
    rfl
  · obtain ⟨hd, a, m, cs, rfl, hs, ha, ah, hl, hc, m0, m1, k⟩ := h
    refine ⟨_, PSs.nox (pss_cons (ps_setLc (i := 3) (own := [("_law_person", 5)]) (g := gName 5) (tt := tYes) rfl sc_l_drawn_split.nd rfl rfl (sw_true rfl rfl rfl (by decide +kernel)) (pi_range1 rfl (T.free "range" (by decide)) (pa_cons (pv 2) pa_nil)) (blkOk_by (N := N_l_drawn_split) (sc := defScope s_l_drawn_split) (by decide +kernel)) (fun _ _ _ _ _ => pg_name (i := 5) sc_l_drawn_split.nd rfl (Or.inl rfl)) (fun _ _ _ _ _ => pts_nil) (fun _ _ _ _ _ => (pe_lst pa_nil)))
  (pss_cons (ps_for PassesOwn.never rfl (pi_list (pv 1)) (pg_name (i := 4) sc_l_drawn_split.nd rfl (Or.inl rfl))
    (pss_one (ps_expr (pe_bm PySem.F.plainAttrs_list PySem.F.slot_list_append PySem.F.type_list_append mt_append (pe_ix ix_list (pv 3) (pe_has h_l_take hr (by decide) (pa_cons (pv 0) (pa_cons (pv 2) pa_nil))) (fun _ _ => rfl)) (pa_cons (pv 4) pa_nil)))))
  (pss_one (ps_ret (pe_callTy call_tuple_of rfl (T.free "tuple" (by decide)) (by decide +kernel) (pa_cons (pe_lc (own := [("_law_purse", 6)]) (g := gName 6) (tt := tYes) (te := tCB (rTupOf K) (tCons (tVar 6) tNil)) rfl sc_l_drawn_split.nd (pi_list (pv 3)) (blkOk_by (N := N_l_drawn_split) (sc := defScope s_l_drawn_split) (by decide +kernel)) (fun _ _ _ _ _ => pg_name (i := 6) sc_l_drawn_split.nd rfl (Or.inl rfl)) (fun _ _ _ _ _ => pts_nil) (fun _ _ _ _ _ => (pe_callTy call_tuple_of rfl (T.free "tuple" (by decide)) (by decide +kernel) (pa_cons (pv 6) pa_nil)))) pa_nil))))))
    , ?_⟩
    refine ⟨_, rfl, m, rfl, by omega, by omega, fun D nD => lc_range (lo := 0) (n := m.toNat) (fun i H1 => ∃ (qs : List Addr) (ps : List (List Int)), Lz H H1 hd D qs ps ∧ St hd H1 ∧ Kh hd.1 H H1 ∧ ps = List.replicate i []) ?_ ?_ ?_⟩
    · exact ⟨[], [], ⟨upd_same, nD, hs.ne nD, hs.nc nD, .nil, rfl, fun j q h => by simp at h⟩, hs.new nD, Kh.new nD, rfl⟩
    · rintro i H1 hi ⟨qs, ps, z, s1, k1, hp⟩
      refine ⟨rfl, ?_⟩
      refine ⟨Evl.sz_of (show (0 : Nat) ≤ _ from by decide), fun r nr => ?_⟩
      have rD : r ≠ D := fun e => by
        have h := z.hG
        rw [← e, nr] at h
        cases h
      have hpl : qs.length = i := by rw [z.len, hp, List.length_replicate]
      refine ⟨_, (upd_ne (Ne.symm rD)).trans z.hG, Evl.sz_lt (by rw [List.length_map]; omega), qs ++ [r], ps ++ [[]], z.grow nr (k1.none s1 nr) (s1.ne nr) (s1.nc nr), (s1.new nr).mut z.Gh z.Gc, (k1.trans (Kh.new nr)).mut nD, by rw [hp, List.replicate_succ']⟩
    · rintro H1 ⟨qs, ps, z, s1, k1, hp⟩
      have hpl : (ps.length : Int) = m := by rw [hp, List.length_replicate]; omega
      refine ⟨_, rfl, a, rfl, ⟨_, SqL.of (k1 a _ ah ha)⟩, for_list (K := K) (a := a) (xs := cs.map V.int) (fun i σ H2 => ∃ (ps : List (List Int)) (x : Option V), σ = [some (.ref hd.1), some (.ref a), some (.int m), some (.ref D), x, none, none] ∧ Lz H H2 hd D qs ps ∧ St hd H2 ∧ Kh hd.1 H H2 ∧ (ps.length : Int) = m ∧ (∀ p ∈ ps, p.length ≤ i ∧ ∀ c ∈ p, 0 ≤ c) ∧ (ps.map List.sum).sum = (cs.take i).sum)
        ⟨ps, none, rfl, z, s1, k1, hpl, ?_, ?_⟩ (fun i σ H2 _ ⟨_, _, _, _, _, k2, _⟩ => SqL.of (k2 a _ ah ha)) ?_ ?_⟩
      · intro p hp2
        rw [hp] at hp2
        rw [(List.mem_replicate.mp hp2).2]
        exact ⟨Nat.le_refl _, by simp⟩
      · rw [hp, List.map_replicate]
        have : ∀ n : Nat, (List.replicate n ([] : List Int).sum).sum = 0 := fun n => by
          induction n with
          | zero => rfl
          | succ n ih =>
            rw [List.replicate_succ, List.sum_cons, ih]
            rfl
        rw [this]
        simp
      · rintro i v σ H2 hi ⟨ps, x, rfl, z2, s2, k2, hl2, hb, hsum⟩
        obtain ⟨c, hc1, rfl⟩ := at_map hi
        have hlt : i < cs.length := (List.getElem?_eq_some_iff.mp hc1).1
        have hcm := hc c (List.mem_of_getElem? hc1)
        refine ⟨_, rfl, _, rfl, _, rfl, hd, _, rfl, s2, m0, by omega, fun r H3 r0 r1 s3 k3 => ?_⟩
        obtain ⟨j, rfl⟩ := Int.eq_ofNat_of_zero_le r0
        have z3 := z2.kh k3
        have hjl : j < qs.length := by
          have := z2.len
          omega
        have hjp : j < ps.length := by
          have := z2.len
          omega
        have hqe : qs[j]? = some qs[j] := List.getElem?_eq_getElem hjl
        obtain ⟨h1, h2, h3, h4, h5⟩ := z3.q j _ hqe
        refine ⟨D, _, _, V.ref qs[j], rfl, rfl, SqL.of z3.hG, atI_nat (by rw [List.getElem?_map, hqe] <;> rfl), .inl ⟨rfl, _, SqL.of h5⟩, _, rfl, qs[j], _, _, rfl, rfl, h5, Evl.sz_lt ?_, ?_⟩
        · rw [List.length_map]
          have := (hb _ (Hand.getD_mem hjp)).1
          omega
        · rw [map_snoc]
          refine ⟨ps.set j (ps.getD j [] ++ [c]), _, rfl, z3.put hqe, s3.mut h2 h3, (k2.trans k3).mut h1, by rw [List.length_set]; exact hl2, fun p hp2 => ?_, ?_⟩
          · rcases Hand.mem_set hp2 with e | e
            · rw [e]
              have hh := hb _ (Hand.getD_mem hjp)
              refine ⟨by rw [List.length_append]; have := hh.1; show (ps.getD j []).length + 1 ≤ i + 1; omega, fun y hy => ?_⟩
              rcases List.mem_append.mp hy with hy | hy
              · exact hh.2 y hy
              · rw [List.mem_singleton.mp hy]
                omega
            · exact ⟨Nat.le_succ_of_le (hb p e).1, (hb p e).2⟩
          · rw [sum_set2 _ _ _ hjp, hsum, take_snoc hc1, List.sum_append, List.sum_append]
            omega
      · rintro σ H2 ⟨ps, x, rfl, z2, s2, k2, hl2, hb, hsum⟩
        rw [List.length_map, List.take_length] at hsum
        refine ⟨_, rfl, D, rfl, ⟨_, SqL.of z2.hG⟩, fun D2 nD2 => lc_list (K := K) (a := D) (xs := qs.map V.ref) (fun i H3 => ∃ rs : List Addr, H3 D2 = some (.lst (rs.map V.ref)) ∧ TupsAt H3 rs (ps.take i) ∧ Same H2 H3)
          ⟨[], upd_same, by simpa using TupsAt.nil, Same.new nD2⟩ (fun i H3 _ ⟨_, _, _, s4⟩ => SqL.of (s4 _ _ z2.hG)) ?_ ?_⟩
        · rintro i v H3 hi ⟨rs, hD2, ht, s4⟩
          obtain ⟨r, hr, rfl⟩ := at_map hi
          obtain ⟨_, _, _, _, hqr⟩ := z2.q i r hr
          have hil : i < ps.length := by
            have := (List.getElem?_eq_some_iff.mp hr).1
            have := z2.len
            omega
          refine ⟨rfl, ?_⟩
          refine ⟨_, rfl, r, _, rfl, .inl ⟨SqL.of (s4 _ _ hqr), fun b nb => ?_⟩⟩
          have bD : b ≠ D2 := fun e => by
            rw [← e, nb] at hD2
            cases hD2
          have htl := ht.len
          rw [List.length_take] at htl
          refine ⟨_, (upd_ne (Ne.symm bD)).trans hD2, Evl.sz_lt (by rw [List.length_map]; omega), rs ++ [b], ?_, ?_, (s4.trans (Same.new nb)).mut nD2⟩
          · rw [upd_same, map_snoc]
          · have e : ps.take (i + 1) = ps.take i ++ [ps.getD i []] := by
              rw [List.take_add_one, List.getElem?_eq_getElem hil, Hand.getD_lt hil]
              rfl
            rw [e]
            refine (ht.imp fun a xs h => ?_).snoc ((upd_ne bD).trans upd_same)
            have n1 : a ≠ D2 := fun z => by
              rw [z, hD2] at h
              cases h
            exact (upd_ne n1).trans (Same.new nb _ _ h)
        · rintro H3 ⟨rs, hD2, ht, s4⟩
          have e : ps.take (qs.map V.ref).length = ps := by rw [List.length_map, z2.len, List.take_length]
          rw [e] at ht
          refine ⟨D2, _, rfl, .inl ⟨SqL.of hD2, fun p2 np2 => ?_⟩⟩
          have s5 := s4.trans (Same.new (o := .tup (rs.map V.ref)) np2)
          exact k p2 _ rs ps (k2.none s2 (s4.free np2)) (s2.same s5) (k2.trans (Kh.of s5)) upd_same (ht.imp fun a xs h => Same.new np2 _ _ h) hl2 (fun p hp2 => (hb p hp2).2) hsum
def spDWish : Sp := fun vs H Q _ => ∃ (hd : Hd) (t m : Int), vs = [.ref hd.1, .int t, .int m] ∧ St hd H ∧ 0 ≤ t ∧ t ≤ 12000000000 ∧ 1 ≤ m ∧ m ≤ 5 ∧
  ∀ (p : Addr) (H' : Hp) (W : List Int), H p = none → St hd H' → Kh hd.1 H H' → H' p = some (.tup (W.map V.int)) → (W.length : Int) = m → (∀ x ∈ W, 0 ≤ x) → W.sum = t → Q (.ref p) H'
theorem h_l_drawn_wish (T : Txt K mg) : Has P w K mg base CX0 3 "_law_drawn_wish" P_l_drawn_wish spDWish := by
  obtain ⟨f, fd, g, F⟩ := T.dfn ("_law_drawn_wish", 46) (by decide +kernel)
  have h_l_take := h_l_take (P := P) (w := w) (base := base) T
  refine ⟨f, fd, g, F.kp, F.bindsN (fun _ _ _ _ _ _ us hl => match us, hl with | [_, _, _], _ => rfl), F.ok sc_l_drawn_wish (fun vs H Q E h => ?_) fun cdv A outer s H vs Q E hr h => ?_⟩
  · obtain ⟨hd, t, m, rfl, _⟩ := h
    rfl
  · obtain ⟨hd, t, m, rfl, hs, t0, t1, m0, m1, k⟩ := h
    refine ⟨_, PSs.nox (pss_cons (ps_set (i := 3) sc_l_drawn_wish.nd rfl (Or.inl rfl) (pv 1))
  (pss_cons (ps_set (i := 4) sc_l_drawn_wish.nd rfl (Or.inl rfl) (pe_lst pa_nil))
  (pss_cons (ps_for PassesOwn.never rfl (pi_range1 rfl (T.free "range" (by decide)) (pa_cons (pe_op op_sub (pv 2) pe_int) pa_nil)) (pg_name (i := 5) sc_l_drawn_wish.nd rfl (Or.inl rfl))
    (pss_cons (ps_set (i := 6) sc_l_drawn_wish.nd rfl (Or.inl rfl) (pe_has h_l_take hr (by decide) (pa_cons (pv 0) (pa_cons pe_int pa_nil))))
    (pss_cons (ps_set (i := 7) sc_l_drawn_wish.nd rfl (Or.inl rfl) (pe_has h_l_take hr (by decide) (pa_cons (pv 0) (pa_cons (pe_op op_add (pv 3) pe_int) pa_nil))))
    (Evl.pss_cut (ps_if (pt_cmpR op_eq (pv 6) pe_int (nomark _))
      (pss_one (ps_set (i := 7) sc_l_drawn_wish.nd rfl (Or.inl rfl) (pe_op op_fdivW (pv 3) (pe_op op_sub (pv 2) (pv 5)))))
      pss_nil)
    (Evl.pss_cut (ps_if (PW.pt (pw_and (pt_cmpR op_eq (pv 6) pe_int (nomark _)) (pw_and1 (pt_cmpR op_eq (pe_has h_l_take hr (by decide) (pa_cons (pv 0) (pa_cons pe_int pa_nil))) pe_int (nomark _)))))
      (pss_one (ps_set (i := 7) sc_l_drawn_wish.nd rfl (Or.inl rfl) (pe_ix ix_list (pe_lst (pa_cons pe_int (pa_cons (pv 3) pa_nil))) (pe_has h_l_take hr (by decide) (pa_cons (pv 0) (pa_cons pe_int pa_nil))) (fun _ _ => rfl))))
      pss_nil)
    (pss_cons (ps_expr (pe_bm PySem.F.plainAttrs_list PySem.F.slot_list_append PySem.F.type_list_append mt_append (pv 4) (pa_cons (pv 7) pa_nil)))
    (pss_one (ps_set (i := 3) sc_l_drawn_wish.nd rfl (Or.inl rfl) (pe_op op_sub (pv 3) (pv 7))))))))))
  (pss_cons (ps_expr (pe_bm PySem.F.plainAttrs_list PySem.F.slot_list_insert PySem.F.type_list_insert mt_insert (pv 4) (pa_cons (pe_has h_l_take hr (by decide) (pa_cons (pv 0) (pa_cons (pv 2) pa_nil))) (pa_cons (pv 3) pa_nil))))
  (pss_one (ps_ret (pe_callTy call_tuple_of rfl (T.free "tuple" (by decide)) (by decide +kernel) (pa_cons (pv 4) pa_nil))))))))
    , ?_⟩
    refine ⟨_, rfl, Evl.sz_of (show (0 : Nat) ≤ _ from by decide), fun p np => ?_⟩
    have ph := hs.ne np
    have pc := hs.nc np
    refine ⟨_, rfl, _, _, rfl, rfl, m - 1, rfl, by omega, by omega, for_range (lo := 0) (n := (m - 1).toNat) (fun i σ H1 => ∃ (cs : List Int) (l : Int) (x5 x6 x7 : Option V), σ = [some (.ref hd.1), some (.int t), some (.int m), some (.int l), some (.ref p), x5, x6, x7] ∧ H1 p = some (.lst (cs.map V.int)) ∧ St hd H1 ∧ Kh hd.1 H H1 ∧ cs.length = i ∧ (∀ x ∈ cs, 0 ≤ x) ∧ cs.sum + l = t ∧ 0 ≤ l ∧ l ≤ 12000000000)
      ⟨[], t, none, none, none, rfl, upd_same, hs.new np, Kh.new np, rfl, by simp, by simp, t0, t1⟩ ?_ ?_⟩
    · rintro i σ H1 hi ⟨cs, l, x5, x6, x7, rfl, hp, s1, k1, hl, hc, hsum, l0, l1⟩
      refine ⟨_, rfl, hd, _, rfl, s1, by decide, by decide, fun way H2 w0 w1 s2 k2 => ?_⟩
      refine ⟨_, rfl, _, rfl, _, _, rfl, rfl, hd, _, rfl, s2, by omega, by omega, fun part H3 q0 q1 s3 k3 => ?_⟩
      have hp3 := k3 _ _ ph (k2 _ _ ph hp)
      have k13 := (k1.trans k2).trans k3
      refine ⟨fun σ' H' => ∃ part : Int, σ' = [some (.ref hd.1), some (.int t), some (.int m), some (.int l), some (.ref p), some (.int (0 + (i : Int))), some (.int way), some (.int part)] ∧ H' = H3 ∧ 0 ≤ part ∧ part ≤ l, ?_, ?_⟩
      · refine ⟨_, rfl, rfl, _, rfl, ?_⟩
        refine if_eqI (fun c => ?_) fun c => ?_
        · refine ⟨_, rfl, _, rfl, _, rfl, _, _, rfl, rfl, _, _, rfl, rfl, cdivW (by omega) (by omega), ?_⟩
          refine ⟨_, rfl, rfl, Int.ediv_nonneg l0 (by omega), ?_⟩
          exact Int.ediv_le_self _ l0
        · exact ⟨part, rfl, rfl, q0, by omega⟩
      · rintro σ' H' ⟨part, rfl, rfl, q0, q1⟩
        refine ⟨fun σ' H4 => ∃ part : Int, σ' = [some (.ref hd.1), some (.int t), some (.int m), some (.int l), some (.ref p), some (.int (0 + (i : Int))), some (.int way), some (.int part)] ∧ St hd H4 ∧ Kh hd.1 H H4 ∧ H4 p = some (.lst (cs.map V.int)) ∧ 0 ≤ part ∧ part ≤ l, ?_, ?_⟩
        · refine ⟨_, rfl, rfl, _, rfl, ?_⟩
          refine if_eqI (fun c => ?_) fun c => ?_
          · refine ⟨_, rfl, hd, _, rfl, s3, by decide, by decide, fun r H4 r0 r1 s4 k4 => ⟨rfl, _, rfl, ?_⟩⟩
            have hp4 := k4 _ _ ph hp3
            refine if_eqI (fun c2 => ?_) fun c2 => ?_
            · refine ⟨_, rfl, Evl.sz_of (show (2 : Nat) ≤ _ from by decide), fun q nq => ?_⟩
              refine ⟨_, rfl, hd, _, rfl, s4.new nq, by decide, by decide, fun r' H5 r0' r1' s5 k5 => ?_⟩
              have hq := k5 q _ (s4.ne nq) upd_same
              have hp5 := k5 p _ ph (Same.new (o := .lst [.int 0, .int l]) nq _ _ hp4)
              have k15 := ((k13.trans k4).trans (Kh.new nq)).trans k5
              obtain ⟨j, rfl⟩ := Int.eq_ofNat_of_zero_le r0'
              have hj : j = 0 ∨ j = 1 := by omega
              rcases hj with e | e
              · subst e
                exact ⟨_, _, _, _, rfl, rfl, SqL.of hq, rfl, 0, rfl, s5, k15, hp5, Int.le_refl _, l0⟩
              · subst e
                exact ⟨_, _, _, _, rfl, rfl, SqL.of hq, rfl, l, rfl, s5, k15, hp5, l0, Int.le_refl _⟩
            · exact ⟨part, rfl, s4, k13.trans k4, hp4, q0, q1⟩
          · exact ⟨part, rfl, s3, k13, hp3, q0, q1⟩
        · rintro σ' H4 ⟨part, rfl, s4, k4, hp4, q0, q1⟩
          refine ⟨_, rfl, .inl ⟨rfl, _, SqL.of hp4⟩, _, rfl, p, _, _, rfl, rfl, hp4, Evl.sz_lt (by rw [List.length_map]; omega), ?_⟩
          refine ⟨_, rfl, _, rfl, _, _, rfl, rfl, ?_⟩
          refine ⟨cs ++ [part], l - part, _, _, _, rfl, by rw [upd_same, ← map_snoc], s4.mut ph pc, k4.mut np, by rw [List.length_append, hl] <;> rfl, fun x hx => ?_, ?_, by omega, by omega⟩
          · rcases List.mem_append.mp hx with hx | hx
            · exact hc x hx
            · rw [List.mem_singleton.mp hx]
              exact q0
          · rw [List.sum_append]
            simp only [List.sum_cons, List.sum_nil]
            omega
    · rintro σ H1 ⟨cs, l, x5, x6, x7, rfl, hp, s1, k1, hl, hc, hsum, l0, l1⟩
      refine ⟨_, rfl, .inl ⟨rfl, _, SqL.of hp⟩, _, rfl, _, rfl, hd, _, rfl, s1, m0, by omega, fun r H2 r0 r1 s2 k2 => ?_⟩
      have hp2 := k2 _ _ ph hp
      obtain ⟨j, rfl⟩ := Int.eq_ofNat_of_zero_le r0
      refine ⟨_, rfl, p, _, _, _, rfl, rfl, hp2, Evl.sz_lt (by rw [List.length_map]; omega), r0, by omega, ?_⟩
      refine ⟨_, rfl, p, _, rfl, .inl ⟨SqL.of upd_same, fun q nq => ?_⟩⟩
      have k3 : Kh hd.1 H (upd H2 p (.lst ((cs.map V.int).take (Int.toNat (j : Int)) ++ [.int l] ++ (cs.map V.int).drop (Int.toNat (j : Int))))) := (k1.trans k2).mut np
      have s3 := s2.mut (o := .lst ((cs.map V.int).take (Int.toNat (j : Int)) ++ [.int l] ++ (cs.map V.int).drop (Int.toNat (j : Int)))) ph pc
      have hperm : (cs.take j ++ [l] ++ cs.drop j).Perm (l :: cs) := by
        have h1 : (cs.take j ++ [l] ++ cs.drop j).Perm (l :: (cs.take j ++ cs.drop j)) := by
          rw [List.append_assoc]
          exact List.perm_middle
        rw [List.take_append_drop] at h1
        exact h1
      refine k q _ (cs.take j ++ [l] ++ cs.drop j) (k3.none s3 nq) (s3.new nq) (k3.trans (Kh.new nq)) ?_ ?_ ?_ ?_
      · rw [upd_same, Int.toNat_natCast, List.map_append, List.map_append, List.map_take, List.map_drop]
        rfl
      · rw [hperm.length_eq, List.length_cons, hl]
        omega
      · intro x hx
        rcases List.mem_cons.mp (hperm.mem_iff.mp hx) with e | e
        · omega
        · exact hc x e
      · rw [sum_perm hperm, List.sum_cons]
        omega
def spAWish : Sp := fun vs H Q _ => ∃ (hd : Hd) (a : Addr) (m : Int) (cs : List Int), vs = [.ref hd.1, .ref a, .int m] ∧ St hd H ∧ H a = some (.lst (cs.map V.int)) ∧ a ≠ hd.1 ∧ cs.length ≤ 12 ∧ In 1 1000000000 cs ∧ 1 ≤ m ∧ m ≤ 5 ∧
  ∀ (p : Addr) (H' : Hp) (W : List Int), H p = none → St hd H' → Kh hd.1 H H' → H' p = some (.tup (W.map V.int)) → (W.length : Int) = m → (∀ x ∈ W, 0 ≤ x) → W.sum = cs.sum → Q (.ref p) H'
theorem h_l_any_wish (T : Txt K mg) : Has P w K mg base CX0 4 "_law_any_wish" P_l_any_wish spAWish := by
  obtain ⟨f, fd, g, F⟩ := T.dfn ("_law_any_wish", 47) (by decide +kernel)
  have h_l_take := h_l_take (P := P) (w := w) (base := base) T
  have h_l_drawn_split := h_l_drawn_split (P := P) (w := w) (base := base) T
  have h_l_drawn_wish := h_l_drawn_wish (P := P) (w := w) (base := base) T
  refine ⟨f, fd, g, F.kp, F.bindsN (fun _ _ _ _ _ _ us hl => match us, hl with | [_, _, _], _ => rfl), F.ok sc_l_any_wish (fun vs H Q E h => ?_) fun cdv A outer s H vs Q E hr h => ?_⟩
  · obtain ⟨hd, a, m, cs, rfl, _⟩ := h
    rfl
  · obtain ⟨hd, a, m, cs, rfl, hs, ha, ah, hl, hc, m0, m1, k⟩ := h
    refine ⟨_, PSs.nox (pss_cons (ps_if (pt_truth (pe_has h_l_take hr (by decide) (pa_cons (pv 0) (pa_cons pe_int pa_nil))) (by intro _; rfl))
    (pss_one (ps_ret (pe_callTy call_tuple_of rfl (T.free "tuple" (by decide)) (by decide +kernel) (pa_cons (pe_lc (own := [("_law_purse", 3)]) (g := gName 3) (tt := tYes) (te := tCB (rSumT K) (tCons (tVar 3) tNil)) rfl sc_l_any_wish.nd (pi_tup (pe_has h_l_drawn_split hr (by decide) (pa_cons (pv 0) (pa_cons (pv 1) (pa_cons (pv 2) pa_nil))))) (blkOk_by (N := N_l_any_wish) (sc := defScope s_l_any_wish) (by decide +kernel)) (fun _ _ _ _ _ => pg_name (i := 3) sc_l_any_wish.nd rfl (Or.inl rfl)) (fun _ _ _ _ _ => pts_nil) (fun _ _ _ _ _ => (pe_callB (cr_sumT rfl) rfl (T.free "sum" (by decide)) (by decide +kernel) (pa_cons (pv 3) pa_nil)))) pa_nil))))
    pss_nil)
  (pss_one (ps_ret (pe_has h_l_drawn_wish hr (by decide) (pa_cons (pv 0) (pa_cons (pe_callB (cr_sum rfl) rfl (T.free "sum" (by decide)) (by decide +kernel) (pa_cons (pv 1) pa_nil)) (pa_cons (pv 2) pa_nil)))))))
    , ?_⟩
    refine ⟨_, rfl, hd, _, rfl, hs, by decide, by decide, fun r H1 r0 r1 s1 k1 => ⟨_, rfl, ?_⟩⟩
    have ha1 := k1 a _ ah ha
    cases hb : (r != 0) with
    | true =>
      refine ⟨_, rfl, _, rfl, _, rfl, hd, a, m, cs, rfl, s1, ha1, ah, hl, hc, m0, m1, fun p H2 qs ps np s2 k2 hp ht hpl hp0 hsum => ?_⟩
      refine ⟨p, rfl, ⟨_, SqT.of hp⟩, fun D nD => lc_tup (K := K) (a := p) (xs := qs.map V.ref) (fun i H3 => H3 D = some (.lst (((ps.take i).map List.sum).map V.int)) ∧ Same H2 H3)
        ⟨upd_same, Same.new nD⟩ (fun i H3 _ ⟨_, s4⟩ => SqT.of (s4 _ _ hp)) ?_ ?_⟩
      · rintro i v H3 hi ⟨hD, s4⟩
        obtain ⟨q, hq, rfl⟩ := at_map hi
        obtain ⟨pp, hpp, hqq⟩ := ht.at_ hq
        refine ⟨rfl, ?_⟩
        refine ⟨_, rfl, q, pp, rfl, SqT.of (s4 _ _ hqq), _, hD, Evl.sz_lt ?_, ?_, s4.mut nD⟩
        · rw [List.length_map, List.length_map, List.length_take]
          omega
        · have e : ps.take (i + 1) = ps.take i ++ [pp] := by
            rw [List.take_add_one, hpp]
            rfl
          rw [upd_same, e]
          simp only [List.map_append, List.map_cons, List.map_nil]
      · rintro H3 ⟨hD, s4⟩
        have e : ps.take (qs.map V.ref).length = ps := by rw [List.length_map, ht.len, List.take_length]
        rw [e] at hD
        refine ⟨D, _, rfl, .inl ⟨SqL.of hD, fun p2 np2 => ?_⟩⟩
        have s5 := s4.trans (Same.new (o := .tup ((ps.map List.sum).map V.int)) np2)
        refine k p2 _ (ps.map List.sum) ((k1.trans k2).none s2 (s4.free np2)) (s2.same s5) ((k1.trans k2).trans (Kh.of s5)) upd_same (by rw [List.length_map]; exact hpl) ?_ hsum
        intro x hx
        obtain ⟨pp, hpp, rfl⟩ := List.mem_map.mp hx
        exact Hand.nn_sum0 pp (hp0 pp hpp)
    | false =>
      refine ⟨_, rfl, _, rfl, a, cs, rfl, SqL.of ha1, _, rfl, hd, cs.sum, m, rfl, s1, hc.sum0 (by decide), ?_, m0, m1, fun p H2 W np s2 k2 hp h1 h2 h3 => ?_⟩
      · have := hc.sum
        omega
      · exact k p H2 W (k1.none s1 np) s2 (k1.trans k2) hp h1 h2 h3
def spListed : Sp := fun vs H Q _ => ∃ (hd : Hd) (a : Addr) (W : List Int), vs = [.ref hd.1, .ref a] ∧ St hd H ∧ H a = some (.tup (W.map V.int)) ∧
  ∀ (p : Addr) (b : Bool) (H' : Hp), St hd H' → Kh hd.1 H H' → SqH b H' p (W.map V.int) → p ≠ hd.1 → Q (.ref p) H'
theorem h_l_listed (T : Txt K mg) : Has P w K mg base CX0 3 "_law_listed" P_l_listed spListed := by
  obtain ⟨f, fd, g, F⟩ := T.dfn ("_law_listed", 48) (by decide +kernel)
  have h_l_take := h_l_take (P := P) (w := w) (base := base) T
  refine ⟨f, fd, g, F.kp, F.bindsN (fun _ _ _ _ _ _ us hl => match us, hl with | [_, _], _ => rfl), F.ok sc_l_listed (fun vs H Q E h => ?_) fun cdv A outer s H vs Q E hr h => ?_⟩
  · obtain ⟨hd, a, W, rfl, _⟩ := h
    rfl
  · obtain ⟨hd, a, W, rfl, hs, ha, k⟩ := h
    refine ⟨_, PSs.nox (pss_one (ps_ret (pe_ifExp (pt_truth (pe_has h_l_take hr (by decide) (pa_cons (pv 0) (pa_cons pe_int pa_nil))) (by intro _; rfl)) (pe_callTy call_list_of rfl (T.free "list" (by decide)) (by decide +kernel) (pa_cons (pv 1) pa_nil)) (pe_callTy call_tuple_of rfl (T.free "tuple" (by decide)) (by decide +kernel) (pa_cons (pv 1) pa_nil)))))
    , ?_⟩
    refine ⟨_, rfl, hd, _, rfl, hs, by decide, by decide, fun r H1 r0 r1 s1 k1 => ⟨_, rfl, ?_⟩⟩
    have ha1 := k1.tup hs ha
    cases hb : (r != 0) with
    | true =>
      refine ⟨_, rfl, a, _, rfl, .inr (SqT.of ha1), fun p np => ?_⟩
      exact k p false _ (s1.new np) (k1.trans (Kh.new np)) upd_same (s1.ne np)
    | false => exact ⟨_, rfl, a, _, rfl, .inr ⟨SqT.of ha1, k a true H1 s1 k1 ha1 (s1.tupl ha1)⟩⟩
end
end K12

set_option Elab.async false
set_option linter.all false
set_option maxRecDepth 100000
set_option maxHeartbeats 4000000
/-! What is told, what is due: as data; numbers, splits. -/
namespace K12
open PySem PySem.Spec PyProof.Rows L2 K12L Hand RZ
local macro_rules | `(tactic| walk_at "rd") => `(tactic| repeat (first | (with_reducible exact trivial) | refine ⟨_, rfl, ?_⟩ | refine ⟨_, _, rfl, rfl, ?_⟩ | refine Or.inl ⟨_, rfl, ?_⟩ | refine ⟨Or.inr ⟨by decide, by decide⟩, ?_⟩ | refine ⟨Or.inl ⟨by omega, by omega⟩, ?_⟩ | refine ⟨⟨by decide, by decide +kernel⟩, ?_⟩ | refine ⟨(show (0 : Int) < _ from by decide), ?_⟩ | refine ⟨(show (0 : Int) < _ from by omega), ?_⟩ | refine ⟨cdivW (by omega) (by omega), ?_⟩ | refine ⟨_, _, _, _, rfl, rfl, SqL.of (by first | assumption | exact upd_same), by rfl, ?_⟩ | refine ⟨_, _, _, _, rfl, rfl, (by first | assumption | exact upd_same), by rfl, ?_⟩ | refine ⟨_, _, rfl, Or.inl (SqL.of (by first | assumption | exact upd_same)), ?_⟩ | refine ⟨Or.inl ⟨rfl, _, SqL.of (by first | assumption | exact upd_same)⟩, ?_⟩ | refine ⟨_, _, _, rfl, rfl, (by first | assumption | exact upd_same), (Evl.sz_lt (by first | omega | (simp only [List.length_map]; omega))), ?_⟩ | refine ⟨rfl, ?_⟩))
/-! ### data -/
def Fl (k : Nat) (d : PyData) : Prop := d.canLay0 = true ∧ d.depth ≤ k
theorem Fl.int {k : Nat} (i : Int) : Fl k (.int i) := ⟨rfl, Nat.zero_le _⟩
theorem fl_all {k : Nat} : ∀ {xs : List PyData}, (∀ x ∈ xs, Fl k x) → PyData.canLayAll0 xs = true ∧ PyData.depthAll xs ≤ k
  | [], _ => ⟨rfl, Nat.zero_le _⟩
  | x :: xs, h => by
    obtain ⟨h1, h2⟩ := h x (by simp)
    obtain ⟨i1, i2⟩ := fl_all (xs := xs) fun y hy => h y (by simp [hy])
    refine ⟨?_, ?_⟩
    · rw [PyData.canLayAll0, h1, i1]
      rfl
    · rw [PyData.depthAll]
      exact Nat.max_le.mpr ⟨h2, i2⟩
theorem Fl.list {k : Nat} {xs : List PyData} (h : ∀ x ∈ xs, Fl k x) : Fl (k + 1) (.list xs) := by
  obtain ⟨h1, h2⟩ := fl_all h
  exact ⟨by rw [PyData.canLay0]; exact h1, by rw [PyData.depth]; omega⟩
theorem Fl.tuple {k : Nat} {xs : List PyData} (h : ∀ x ∈ xs, Fl k x) : Fl (k + 1) (.tuple xs) := by
  obtain ⟨h1, h2⟩ := fl_all h
  exact ⟨by rw [PyData.canLay0]; exact h1, by rw [PyData.depth]; omega⟩
theorem Fl.shaped {k : Nat} {d : PyData} (h : Fl k d) (hk : k ≤ 64) : SeqAt.shaped d = true := by
  unfold SeqAt.shaped
  rw [h.1, decide_eq_true (Nat.le_trans h.2 hk)]
  rfl
def dInts (ns : List Int) : List PyData := ns.map PyData.int
theorem fl_ints {k : Nat} (ns : List Int) : ∀ x ∈ dInts ns, Fl k x := fun x hx => by
  obtain ⟨n, _, rfl⟩ := List.mem_map.mp hx
  exact Fl.int n
theorem dp_ints {K : PySem.W.Frag} {H : Hp} : ∀ ns : List Int, DpAll K H (ns.map V.int) (dInts ns)
  | [] => .nil
  | n :: ns => .cons (.int n) (dp_ints ns)
theorem dp_refs {K : PySem.W.Frag} {H : Hp} {qs : List Addr} {ps : List (List Int)} (t : TupsAt H qs ps) : DpAll K H (qs.map V.ref) (ps.map fun p => PyData.tuple (dInts p)) := by
  induction t with
  | nil => exact .nil
  | cons h _ ih => exact .cons (.tup (SqT.of h) (dp_ints _)) ih
/-- the calls as they are kept: tuples of the coin and the lacks -/
inductive CallsAt (H : Hp) : List Addr → List Call → Prop
  | nil : CallsAt H [] []
  | cons {t u : Addr} {ts : List Addr} {c : Int} {ls : List Int} {cs : List Call} (h : H t = some (.tup [.int c, .ref u])) (h2 : H u = some (.tup (ls.map V.int))) (r : CallsAt H ts cs) : CallsAt H (t :: ts) ((c, ls) :: cs)
theorem CallsAt.len {H : Hp} {ts : List Addr} {cs : List Call} (t : CallsAt H ts cs) : ts.length = cs.length := by
  induction t with
  | nil => rfl
  | cons _ _ _ ih => rw [List.length_cons, List.length_cons, ih]
theorem CallsAt.imp {H H' : Hp} {ts : List Addr} {cs : List Call} (t : CallsAt H ts cs) (h : ∀ a xs, H a = some (.tup xs) → H' a = some (.tup xs)) : CallsAt H' ts cs := by
  induction t with
  | nil => exact .nil
  | cons e e2 _ ih => exact .cons (h _ _ e) (h _ _ e2) ih
theorem CallsAt.snoc {H : Hp} {ts : List Addr} {cs : List Call} {t u : Addr} {c : Int} {ls : List Int} (r : CallsAt H ts cs) (h : H t = some (.tup [.int c, .ref u])) (h2 : H u = some (.tup (ls.map V.int))) : CallsAt H (ts ++ [t]) (cs ++ [(c, ls)]) := by
  induction r with
  | nil => exact .cons h h2 .nil
  | cons e e2 _ ih => exact .cons e e2 ih
theorem CallsAt.at_ {H : Hp} {ts : List Addr} {cs : List Call} (r : CallsAt H ts cs) : ∀ {j : Nat} {t : Addr}, ts[j]? = some t → ∃ (u : Addr) (c : Int) (ls : List Int), cs[j]? = some (c, ls) ∧ H t = some (.tup [.int c, .ref u]) ∧ H u = some (.tup (ls.map V.int)) := by
  induction r with
  | nil =>
    intro j t h
    simp at h
  | cons e e2 _ ih =>
    intro j t h
    cases j with
    | zero =>
      have z := Option.some.inj h
      subst z
      exact ⟨_, _, _, rfl, e, e2⟩
    | succ j => exact ih (by simpa using h)
def dCall (x : Call) : PyData := .tuple [.int x.1, .tuple (dInts x.2)]
theorem dp_calls {K : PySem.W.Frag} {H : Hp} {ts : List Addr} {cs : List Call} (t : CallsAt H ts cs) : DpAll K H (ts.map V.ref) (cs.map dCall) := by
  induction t with
  | nil => exact .nil
  | cons h h2 _ ih => exact .cons (.tup (SqT.of h) (.cons (.int _) (.cons (.tup (SqT.of h2) (dp_ints _)) .nil))) ih
def kindS : HEnd → Str
  | .split _ => "split"
  | .stuck _ _ => "stuck"
  | .bad _ => "bad"
  | .lost => "lost"
def dEnd : HEnd → PyData
  | .split ps => .tuple (ps.map fun p => .tuple (dInts p))
  | .stuck c ls => .tuple [.int c, .tuple (dInts ls)]
  | .bad t => .int (t : Int)
  | .lost => .none
def dDue (r : HEnd × List Call) : PyData := .list [.str (kindS r.1), dEnd r.1, .list (r.2.map dCall)]
theorem kind_ok (e : HEnd) : (PyData.str (kindS e)).canLay0 = true := by
  cases e with
  | split ps =>
    show (PyData.str "split").canLay0 = true
    decide +kernel
  | stuck c ls =>
    show (PyData.str "stuck").canLay0 = true
    decide +kernel
  | bad t =>
    show (PyData.str "bad").canLay0 = true
    decide +kernel
  | lost =>
    show (PyData.str "lost").canLay0 = true
    decide +kernel
theorem fl_due (r : HEnd × List Call) : Fl 5 (dDue r) := by
  have hc : ∀ x ∈ r.2.map dCall, Fl 3 x := fun x hx => by
    obtain ⟨y, _, rfl⟩ := List.mem_map.mp hx
    refine Fl.tuple fun z hz => ?_
    rcases List.mem_cons.mp hz with e | hz
    · rw [e]; exact Fl.int _
    · rw [List.mem_singleton.mp hz]
      exact Fl.tuple (fl_ints _)
  have he : Fl 4 (dEnd r.1) := by
    cases r.1 with
    | split ps =>
      refine Fl.tuple fun x hx => ?_
      obtain ⟨y, _, rfl⟩ := List.mem_map.mp hx
      exact Fl.tuple (k := 2) (fl_ints _)
    | stuck c ls =>
      refine Fl.tuple fun x hx => ?_
      rcases List.mem_cons.mp hx with e | hx
      · rw [e]; exact Fl.int _
      · rw [List.mem_singleton.mp hx]
        exact Fl.tuple (k := 2) (fl_ints _)
    | bad t => exact Fl.int _
    | lost => exact ⟨rfl, Nat.zero_le _⟩
  refine Fl.list fun x hx => ?_
  rcases List.mem_cons.mp hx with e | hx
  · rw [e]
    exact ⟨kind_ok _, Nat.zero_le _⟩
  rcases List.mem_cons.mp hx with e | hx
  · rw [e]
    exact he
  · rw [List.mem_singleton.mp hx]
    exact Fl.list hc
/-- the second of three -/
def EndAt (H : Hp) (x : V) : HEnd → Prop
  | .split ps => ∃ (t : Addr) (qs : List Addr), x = .ref t ∧ H t = some (.tup (qs.map V.ref)) ∧ TupsAt H qs ps
  | .stuck c ls => ∃ t u : Addr, x = .ref t ∧ H t = some (.tup [.int c, .ref u]) ∧ H u = some (.tup (ls.map V.int))
  | .bad t => x = .int (t : Int)
  | .lost => False
structure DueAt (H : Hp) (p : Addr) (x : V) (ca : Addr) (ts : List Addr) (r : HEnd × List Call) : Prop where
  hp : H p = some (.lst [.str (kindS r.1), x, .ref ca])
  hc : H ca = some (.lst (ts.map V.ref))
  calls : CallsAt H ts r.2
  en : EndAt H x r.1
theorem DueAt.imp {H H' : Hp} {p : Addr} {x : V} {ca : Addr} {ts : List Addr} {r : HEnd × List Call} (d : DueAt H p x ca ts r) (h : ∀ a xs, H a = some (.tup xs) → H' a = some (.tup xs)) (h1 : ∀ o, H p = some o → H' p = some o) (h2 : ∀ o, H ca = some o → H' ca = some o) : DueAt H' p x ca ts r := by
  refine ⟨h1 _ d.hp, h2 _ d.hc, d.calls.imp h, ?_⟩
  have e := d.en
  revert e
  generalize r.1 = r1
  intro e
  cases r1 with
  | split ps =>
    obtain ⟨t, qs, e1, e2, e3⟩ := e
    exact ⟨t, qs, e1, h _ _ e2, e3.imp h⟩
  | stuck c ls =>
    obtain ⟨t, u, e1, e2, e3⟩ := e
    exact ⟨t, u, e1, h _ _ e2, h _ _ e3⟩
  | bad t => exact e
  | lost => exact e
theorem DueAt.same {H H' : Hp} {p : Addr} {x : V} {ca : Addr} {ts : List Addr} {r : HEnd × List Call} (d : DueAt H p x ca ts r) (s : Same H H') : DueAt H' p x ca ts r := d.imp (fun a xs h => s _ _ h) (fun o h => s _ _ h) fun o h => s _ _ h
theorem DueAt.ne {H : Hp} {p : Addr} {x : V} {ca : Addr} {ts : List Addr} {r : HEnd × List Call} {hd : Hd} (d : DueAt H p x ca ts r) (s : St hd H) : p ≠ hd.1 ∧ ca ≠ hd.1 := by
  refine ⟨fun z => ?_, s.refs d.hc⟩
  obtain ⟨cells, pos, left, mixed, h1, _⟩ := s
  rw [← z, d.hp] at h1
  cases h1
theorem DueAt.kh {H H' : Hp} {p : Addr} {x : V} {ca : Addr} {ts : List Addr} {r : HEnd × List Call} {hd : Hd} (d : DueAt H p x ca ts r) (s : St hd H) (k : Kh hd.1 H H') : DueAt H' p x ca ts r := by
  obtain ⟨n1, n2⟩ := d.ne s
  exact d.imp (fun a xs h => k.tup s h) (fun o h => k _ _ n1 h) fun o h => k _ _ n2 h
theorem DueAt.dp {K : PySem.W.Frag} {H : Hp} {p : Addr} {x : V} {ca : Addr} {ts : List Addr} {r : HEnd × List Call} (d : DueAt H p x ca ts r) : Dp K H (.ref p) (dDue r) := by
  refine .lst (SqL.of d.hp) (.cons (.str _) (.cons ?_ (.cons (.lst (SqL.of d.hc) (dp_calls d.calls)) .nil)))
  have e := d.en
  revert e
  generalize r.1 = r1
  intro e
  cases r1 with
  | split ps =>
    obtain ⟨t, qs, rfl, e2, e3⟩ := e
    exact .tup (SqT.of e2) (dp_refs e3)
  | stuck c ls =>
    obtain ⟨t, u, rfl, e2, e3⟩ := e
    exact .tup (SqT.of e2) (.cons (.int _) (.cons (.tup (SqT.of e3) (dp_ints _)) .nil))
  | bad t =>
    rw [show x = .int (t : Int) from e]
    exact .int _
  | lost => exact False.elim e
section
variable {P : Program} {w : World} {K : PySem.W.Frag} {mg : Str → Option Value} {base : Heap}
def spNumbers : Sp := fun vs H Q _ => ∃ (a : Addr) (ns : List Int), vs = [.ref a, .int (ns.length : Int)] ∧ H a = some (.tup (ns.map V.int)) ∧ ns.length ≤ 80000 ∧ ∀ H', Same H H' → Q (.bl true) H'
theorem h_l_numbers (T : Txt K mg) : Has P w K mg base CX0 2 "_law_numbers" P_l_numbers spNumbers := by
  obtain ⟨f, fd, g, F⟩ := T.dfn ("_law_numbers", 49) (by decide +kernel)
  have h_l_whole := h_l_whole (P := P) (w := w) (base := base) T
  refine ⟨f, fd, g, F.kp, F.bindsN (fun _ _ _ _ _ _ us hl => match us, hl with | [_, _], _ => rfl), F.ok sc_l_numbers (fun vs H Q E h => ?_) fun cdv A outer s H vs Q E hr h => ?_⟩
  · obtain ⟨a, ns, rfl, _⟩ := h
    rfl
  · obtain ⟨a, ns, rfl, ha, hl, k⟩ := h
    refine ⟨_, PSs.nox (pss_cons (ps_if (PW.pt (pw_or (pt_not (pt_val (pe_callB call_isi rfl (T.free "isinstance" (by decide)) (by decide +kernel) (pa_cons (pv 0) (pa_cons (pe_bltn (v := .ty "tuple") rfl (T.free "tuple" (by decide)) (by decide +kernel) rfl) pa_nil))))) (pw_or1 (pt_cmpR op_ne (pe_callB call_len_seq rfl (T.free "len" (by decide)) (by decide +kernel) (pa_cons (pv 0) pa_nil)) (pv 1) (nomark _)))))
    (pss_one (ps_ret pe_bl))
    pss_nil)
  (pss_one (ps_ret (pe_cmpR op_notIn_seq pe_bl (pe_lc (own := [("_law_thing", 2)]) (g := gName 2) (tt := tYes) rfl sc_l_numbers.nd (pi_tup (pv 0)) (blkOk_by (N := N_l_numbers) (sc := defScope s_l_numbers) (by decide +kernel)) (fun _ _ _ _ _ => pg_name (i := 2) sc_l_numbers.nd rfl (Or.inl rfl)) (fun _ _ _ _ _ => pts_nil) (fun _ _ _ _ _ => (pe_has h_l_whole hr (by decide) (pa_cons (pv 2) pa_nil)))) rfl))))
    , ?_⟩
    refine ⟨_, rfl, _, _, _, _, true, rfl, .ty _, .base (.tup ha), kit_ty (by decide +kernel), _, rfl, ?_⟩
    refine ⟨_, rfl, a, _, rfl, .inr (SqT.of ha), _, rfl, rfl, _, rfl, ?_⟩
    rw [List.length_map, decide_eq_true (rfl : V.int (ns.length : Int) = V.int (ns.length : Int))]
    refine ⟨_, rfl, a, rfl, ⟨_, SqT.of ha⟩, fun D nD => lc_tup (K := K) (a := a) (xs := ns.map V.int) (fun i H1 => H1 D = some (.lst (List.replicate i (V.bl true))) ∧ Same H H1)
      ⟨upd_same, Same.new nD⟩ (fun i H1 _ ⟨_, s1⟩ => SqT.of (s1 _ _ ha)) ?_ ?_⟩
    · rintro i v H1 hi ⟨hD, s1⟩
      obtain ⟨n, hn, rfl⟩ := at_map hi
      have hlt := (List.getElem?_eq_some_iff.mp hn).1
      refine ⟨rfl, ?_⟩
      refine ⟨_, rfl, n, rfl, _, hD, Evl.sz_lt (by rw [List.length_replicate]; omega), ?_, s1.mut nD⟩
      rw [upd_same, List.replicate_succ']
    · rintro H1 ⟨hD, s1⟩
      rw [List.length_map] at hD
      have hin : inV (.bl false) (List.replicate ns.length (V.bl true)) = false := by
        induction ns.length with
        | zero => rfl
        | succ n ih =>
          rw [List.replicate_succ]
          exact ih
      refine ⟨D, _, rfl, .inl (SqL.of hD), rfl, ?_, ?_⟩
      · rw [List.all_eq_true]
        intro x hx
        rw [(List.mem_replicate.mp hx).2]
        rfl
      · show Q (.bl (!inV (.bl false) (List.replicate ns.length (V.bl true)))) H1
        rw [hin]
        exact k H1 s1
theorem asc_eq {a b : List Int} (h1 : a.Perm b) (h2 : a.Pairwise (· ≤ ·)) (h3 : b.Pairwise (· ≤ ·)) : a = b := List.Perm.eq_of_pairwise (fun a b _ _ h4 h5 => Int.le_antisymm h4 h5) h2 h3 h1
theorem eqv_ints (ns : List Int) : PyData.eqv (.list (dInts ns)) (.list (dInts ns)) = true := SeqAt.eqv_refl _ (Fl.list (k := 0) (fl_ints ns)).1
theorem len_flat : ∀ {ps : List (List Int)} {p : List Int}, p ∈ ps → p.length ≤ ps.flatten.length
  | [], _, h => by simp at h
  | a :: ps, p, h => by
    rw [List.flatten_cons, List.length_append]
    rcases List.mem_cons.mp h with e | e
    · rw [e]; omega
    · have := len_flat e
      omega
def spIsSplit : Sp := fun vs H Q _ => ∃ (t a u : Addr) (qs : List Addr) (ps : List (List Int)) (coins W : List Int), vs = [.ref t, .ref a, .ref u] ∧ H t = some (.tup (qs.map V.ref)) ∧ TupsAt H qs ps ∧ H a = some (.lst (coins.map V.int)) ∧ H u = some (.tup (W.map V.int)) ∧
  Split W coins ps ∧ coins.Pairwise (· ≤ ·) ∧ coins.length ≤ 12 ∧ ∀ H', Same H H' → Q (.bl true) H'
theorem h_l_is_split (T : Txt K mg) : Has P w K mg base CX0 3 "_law_is_split" P_l_is_split spIsSplit := by
  obtain ⟨f, fd, g, F⟩ := T.dfn ("_law_is_split", 50) (by decide +kernel)
  have h_l_numbers := h_l_numbers (P := P) (w := w) (base := base) T
  refine ⟨f, fd, g, F.kp, F.bindsN (fun _ _ _ _ _ _ us hl => match us, hl with | [_, _, _], _ => rfl), F.ok sc_l_is_split (fun vs H Q E h => ?_) fun cdv A outer s H vs Q E hr h => ?_⟩
  · obtain ⟨t, a, u, qs, ps, coins, W, rfl, _⟩ := h
    rfl
  · obtain ⟨t, a, u, qs, ps, coins, W, rfl, ht, hts, ha, hu, sp, asc, hl, k⟩ := h
    refine ⟨_, PSs.nox (pss_cons (ps_if (PW.pt (pw_or (pt_not (pt_val (pe_callB call_isi rfl (T.free "isinstance" (by decide)) (by decide +kernel) (pa_cons (pv 0) (pa_cons (pe_bltn (v := .ty "tuple") rfl (T.free "tuple" (by decide)) (by decide +kernel) rfl) pa_nil))))) (pw_or1 (pt_cmpR op_ne (pe_callB call_len_seq rfl (T.free "len" (by decide)) (by decide +kernel) (pa_cons (pv 0) pa_nil)) (pe_callB call_len_seq rfl (T.free "len" (by decide)) (by decide +kernel) (pa_cons (pv 2) pa_nil)) (nomark _)))))
    (pss_one (ps_ret pe_bl))
    pss_nil)
  (pss_cons (ps_set (i := 3) sc_l_is_split.nd rfl (Or.inl rfl) (pe_lst pa_nil))
  (pss_cons (ps_for PassesOwn.never rfl (pi_zipA rfl (T.free "zip" (by decide)) (pa_cons (pv 0) (pa_cons (pv 2) pa_nil))) (pg_tup rfl (pgs_cons (pg_name (i := 4) sc_l_is_split.nd rfl (Or.inl rfl)) (pgs_cons (pg_name (i := 5) sc_l_is_split.nd rfl (Or.inl rfl)) pgs_nil)))
    (pss_cons (ps_if (PW.pt (pw_or (pt_not (pt_val (pe_callB call_isi rfl (T.free "isinstance" (by decide)) (by decide +kernel) (pa_cons (pv 4) (pa_cons (pe_bltn (v := .ty "tuple") rfl (T.free "tuple" (by decide)) (by decide +kernel) rfl) pa_nil))))) (pw_or1 (pt_not (pt_val (pe_has h_l_numbers hr (by decide) (pa_cons (pv 4) (pa_cons (pe_callB call_len_seq rfl (T.free "len" (by decide)) (by decide +kernel) (pa_cons (pv 4) pa_nil)) pa_nil))))))))
      (pss_one (ps_ret pe_bl))
      pss_nil)
    (pss_cons (ps_if (PW.pt (pw_or (pt_cmpR (op_neD hr.units) (pe_callTy call_list_of rfl (T.free "list" (by decide)) (by decide +kernel) (pa_cons (pv 4) pa_nil)) (pe_callB cr_sortedQ rfl (T.free "sorted" (by decide)) (by decide +kernel) (pa_cons (pv 4) pa_nil)) (nomark _)) (pw_or1 (pt_cmpR op_ne (pe_callB (cr_sumT rfl) rfl (T.free "sum" (by decide)) (by decide +kernel) (pa_cons (pv 4) pa_nil)) (pv 5) (nomark _)))))
      (pss_one (ps_ret pe_bl))
      pss_nil)
    (pss_one (ps_set (i := 3) sc_l_is_split.nd rfl (Or.inl rfl) (pe_op op_cat (pv 3) (pe_callTy call_list_of rfl (T.free "list" (by decide)) (by decide +kernel) (pa_cons (pv 4) pa_nil))))))))
  (pss_one (ps_ret (pe_cmpR (op_eqD hr.units) (pe_callB cr_sortedQ rfl (T.free "sorted" (by decide)) (by decide +kernel) (pa_cons (pv 3) pa_nil)) (pe_callTy call_list_of rfl (T.free "list" (by decide)) (by decide +kernel) (pa_cons (pv 1) pa_nil)) (nomark _)))))))
    , ?_⟩
    have hql := hts.len
    have hpw := sp.len
    refine ⟨_, rfl, _, _, _, _, true, rfl, .ty _, .base (.tup ht), kit_ty (by decide +kernel), _, rfl, ?_⟩
    refine ⟨_, rfl, t, _, rfl, .inr (SqT.of ht), _, rfl, u, _, rfl, .inr (SqT.of hu), rfl, _, rfl, ?_⟩
    rw [List.length_map, List.length_map, decide_eq_true (show V.int (qs.length : Int) = V.int (W.length : Int) by rw [hql, hpw])]
    refine ⟨Evl.sz_of (show (0 : Nat) ≤ _ from by decide), fun p np => ?_⟩
    have s0 : Same H (upd H p (.lst [])) := Same.new np
    refine ⟨_, rfl, _, rfl, t, u, _, _, rfl, .inr ⟨SqT.of (s0 _ _ ht), SqT.of (s0 _ _ hu), for_zipT (K := K) (xs := qs.map V.ref) (ys := W.map V.int) (by rw [List.length_map, List.length_map, hql, hpw]) (fun i σ H1 => ∃ (tg : Addr) (x y : Option V), σ = [some (.ref t), some (.ref a), some (.ref u), some (.ref tg), x, y] ∧ H1 tg = some (.lst (((ps.take i).flatten).map V.int)) ∧ Same H H1)
      ⟨p, none, none, rfl, upd_same, s0⟩ (fun i σ H1 ⟨_, _, _, _, _, s1⟩ => ⟨SqT.of (s1 _ _ ht), SqT.of (s1 _ _ hu)⟩) ?_ ?_⟩⟩
    · rintro i v1 v2 T σ H1 h1 h2 ⟨tg, x, y, rfl, htg, s1⟩ nT
      obtain ⟨r, hr1, rfl⟩ := at_map h1
      obtain ⟨wv, hwv, rfl⟩ := at_map h2
      obtain ⟨pp, hpp, hrr⟩ := hts.at_ hr1
      obtain ⟨hip, hpe⟩ := List.getElem?_eq_some_iff.mp hpp
      have hiw : i < W.length := (List.getElem?_eq_some_iff.mp hwv).1
      have hppm : pp ∈ ps := List.mem_of_getElem? hpp
      have hasc := sp.asc pp hppm
      have hws : pp.sum = wv := by
        have z := sp.worth i hiw
        rw [getD_lt hip, getD_lt hiw, hpe, (List.getElem?_eq_some_iff.mp hwv).2] at z
        exact z
      have hpl : pp.length ≤ 12 := by
        have z := len_flat hppm
        rw [sp.perm.length_eq] at z
        omega
      refine ⟨_, _, rfl, SqT.of upd_same, rfl, _, _, rfl, _, _, rfl, rfl, ?_⟩
      have s2 := s1.trans (Same.new (o := .tup [.ref r, .int wv]) nT)
      have htg2 := Same.new (o := .tup [.ref r, .int wv]) nT _ _ htg
      generalize upd H1 T (.tup [.ref r, .int wv]) = H2 at s2 htg2
      have hr2 := s2 _ _ hrr
      refine ⟨_, rfl, _, _, _, _, true, rfl, .ty _, .base (.tup hr2), kit_ty (by decide +kernel), _, rfl, ?_⟩
      have hlen : ((pp.map V.int).length : Int) = (pp.length : Int) := by rw [List.length_map]
      refine ⟨_, rfl, _, rfl, r, _, rfl, .inr (SqT.of hr2), r, pp, by rw [hlen]; rfl, hr2, by omega, fun H3 s3 => ⟨_, rfl, ?_⟩⟩
      have hr3 := s3 _ _ hr2
      refine ⟨_, rfl, r, _, rfl, .inr (SqT.of hr3), fun l1 n1 => ?_⟩
      have hr4 := Same.new (o := .lst (pp.map V.int)) n1 _ _ hr3
      refine ⟨_, rfl, r, true, pp, rfl, SqT.of hr4, by omega, fun ms l2 perm asc2 n2 => ?_⟩
      cases asc_eq perm asc2 hasc
      have s4 := (s3.trans (Same.new (o := .lst (pp.map V.int)) n1)).trans (Same.new (o := .lst (pp.map V.int)) n2)
      have hl1 := Same.new (o := .lst (pp.map V.int)) n2 _ _ (upd_same (H := H3) (a := l1) (o := .lst (pp.map V.int)))
      have hl2 : upd (upd H3 l1 (.lst (pp.map V.int))) l2 (.lst (pp.map V.int)) l2 = some (.lst (pp.map V.int)) := upd_same
      generalize upd (upd H3 l1 (.lst (pp.map V.int))) l2 (.lst (pp.map V.int)) = H4 at s4 hl1 hl2
      have fl : SeqAt.shaped (.list (dInts pp)) = true := (Fl.list (k := 0) (fl_ints pp)).shaped (by decide)
      refine ⟨_, _, .lst (SqL.of hl1) (dp_ints pp), .lst (SqL.of hl2) (dp_ints pp), fl, fl, _, rfl, ?_⟩
      rw [eqv_ints]
      have hr5 := s4 _ _ hr2
      refine ⟨_, rfl, r, pp, rfl, SqT.of hr5, _, rfl, rfl, _, rfl, ?_⟩
      rw [hws, decide_eq_true (rfl : V.int wv = V.int wv)]
      refine ⟨_, rfl, _, rfl, r, _, rfl, .inr (SqT.of hr5), fun l3 n3 => ?_⟩
      have htg5 := s4 _ _ htg2
      have htg6 := Same.new (o := .lst (pp.map V.int)) n3 _ _ htg5
      have hfl : (ps.take i).flatten.length ≤ 12 := by
        have z : (ps.take i).flatten.length ≤ ps.flatten.length := by
          conv => rhs; rw [← List.take_append_drop i ps, List.flatten_append, List.length_append]
          omega
        rw [sp.perm.length_eq] at z
        omega
      refine ⟨tg, l3, _, _, rfl, rfl, htg6, upd_same, Evl.sz_of (by rw [List.length_map, List.length_map]; omega), fun l4 n4 => ?_⟩
      refine ⟨l4, _, _, rfl, ?_, ((s2.trans s4).trans (Same.new n3)).trans (Same.new n4)⟩
      have e : ps.take (i + 1) = ps.take i ++ [pp] := by
        rw [List.take_add_one, hpp]
        rfl
      rw [upd_same, e, List.flatten_append, List.map_append]
      simp
    · rintro σ H1 ⟨tg, x, y, rfl, htg, s1⟩
      have e : ps.take (qs.map V.ref).length = ps := by rw [List.length_map, hql, List.take_length]
      rw [e] at htg
      refine ⟨_, rfl, tg, false, ps.flatten, rfl, SqL.of htg, by rw [sp.perm.length_eq]; omega, fun ms l2 perm asc2 n2 => ?_⟩
      cases asc_eq (perm.trans sp.perm) asc2 asc
      have s2 := s1.trans (Same.new (o := .lst (coins.map V.int)) n2)
      have hl2 : upd H1 l2 (.lst (coins.map V.int)) l2 = some (.lst (coins.map V.int)) := upd_same
      generalize upd H1 l2 (.lst (coins.map V.int)) = H2 at s2 hl2
      refine ⟨_, rfl, a, _, rfl, .inl (SqL.of (s2 _ _ ha)), fun l3 n3 => ?_⟩
      have fl : SeqAt.shaped (.list (dInts coins)) = true := (Fl.list (k := 0) (fl_ints coins)).shaped (by decide)
      refine ⟨_, _, .lst (SqL.of (Same.new n3 _ _ hl2)) (dp_ints coins), .lst (SqL.of upd_same) (dp_ints coins), fl, fl, ?_⟩
      rw [eqv_ints]
      exact k _ (s2.trans (Same.new n3))
end
end K12

set_option Elab.async false
set_option linter.all false
set_option maxRecDepth 100000
set_option maxHeartbeats 8000000
/-! Who is able; what is due. -/
namespace K12
open PySem PySem.Spec PyProof.Rows L2 K12L Hand RZ
local macro_rules | `(tactic| walk_at "rd") => `(tactic| repeat (first | (with_reducible exact trivial) | refine ⟨_, rfl, ?_⟩ | refine ⟨_, _, rfl, rfl, ?_⟩ | refine Or.inl ⟨_, rfl, ?_⟩ | refine ⟨Or.inr ⟨by decide, by decide⟩, ?_⟩ | refine ⟨Or.inl ⟨by omega, by omega⟩, ?_⟩ | refine ⟨⟨by decide, by decide +kernel⟩, ?_⟩ | refine ⟨(show (0 : Int) < _ from by decide), ?_⟩ | refine ⟨(show (0 : Int) < _ from by omega), ?_⟩ | refine ⟨cdivW (by omega) (by omega), ?_⟩ | refine ⟨_, _, _, _, rfl, rfl, SqL.of (by first | assumption | exact upd_same), by rfl, ?_⟩ | refine ⟨_, _, _, _, rfl, rfl, (by first | assumption | exact upd_same), by rfl, ?_⟩ | refine ⟨_, _, rfl, Or.inl (SqL.of (by first | assumption | exact upd_same)), ?_⟩ | refine ⟨Or.inl ⟨rfl, _, SqL.of (by first | assumption | exact upd_same)⟩, ?_⟩ | refine ⟨_, _, _, rfl, rfl, (by first | assumption | exact upd_same), (Evl.sz_lt (by first | omega | (simp only [List.length_map]; omega))), ?_⟩ | refine ⟨rfl, ?_⟩))
def ableI (c : Int) (ls : List Int) : List Int := (able c ls).map fun (j : Nat) => (j : Int)
def ableN (c : Int) (ls : List Int) (n : Nat) : List Int := ((List.range n).filter fun j => decide (c ≤ ls.getD j 0)).map fun (j : Nat) => (j : Int)
theorem ableN_succ (c : Int) (ls : List Int) (n : Nat) : ableN c ls (n + 1) = if c ≤ ls.getD n 0 then ableN c ls n ++ [(n : Int)] else ableN c ls n := by
  unfold ableN
  rw [List.range_succ, List.filter_append]
  by_cases h : c ≤ ls.getD n 0
  · rw [if_pos h, List.filter_cons_of_pos (p := fun j => decide (c ≤ ls.getD j 0)) (decide_eq_true h), List.map_append]
    rfl
  · rw [if_neg h, List.filter_cons_of_neg (p := fun j => decide (c ≤ ls.getD j 0)) (by rw [decide_eq_false h]; decide), List.map_append]
    exact List.append_nil _
theorem eqv_nil (ns : List Int) : PyData.eqv (.list (dInts ns)) (.list []) = decide (ns = []) := by
  cases ns with
  | nil => rfl
  | cons a r => rfl
theorem ableI_nil {c : Int} {ls : List Int} : ableI c ls = [] ↔ able c ls = [] := by
  unfold ableI
  exact List.map_eq_nil_iff
theorem ableI_at {c pk : Int} {ls : List Int} (h : able c ls ≠ []) : atI ((ableI c ls).map V.int) (pk % (((ableI c ls).map V.int).length : Int)) = some (V.int (((able c ls).getD (pk % ((able c ls).length : Int)).toNat 0 : Nat) : Int)) := by
  have hl : 0 < (able c ls).length := by
    cases e : able c ls with
    | nil => exact absurd e h
    | cons a r => exact Nat.succ_pos _
  have e1 : (((ableI c ls).map V.int).length : Int) = ((able c ls).length : Int) := by
    unfold ableI
    rw [List.length_map, List.length_map]
  rw [e1]
  have h1 := Int.emod_nonneg pk (show ((able c ls).length : Int) ≠ 0 by omega)
  have hk := mod_lt (n := pk) hl
  have e2 : pk % ((able c ls).length : Int) = (((pk % ((able c ls).length : Int)).toNat : Nat) : Int) := (Int.toNat_of_nonneg h1).symm
  rw [e2, Int.toNat_natCast]
  refine atI_nat ?_
  unfold ableI
  rw [List.getElem?_map, List.getElem?_map, List.getElem?_eq_getElem hk, getD_lt hk]
  rfl
theorem ableN_len (c : Int) (ls : List Int) (n : Nat) : (ableN c ls n).length ≤ n := by
  unfold ableN
  rw [List.length_map]
  refine Nat.le_trans (List.length_filter_le _ _) ?_
  simp
theorem SqH.len {K : PySem.W.Frag} {b : Bool} {H : Hp} {a : Addr} {xs : List V} (h : SqH b H a xs) : SqL K H a xs ∨ SqT K H a xs := by
  cases b with
  | true => exact .inr (SqT.of h)
  | false => exact .inl (SqL.of h)
theorem SqH.ix {K : PySem.W.Frag} {b : Bool} {H : Hp} {a : Addr} {xs : List V} {i : Int} {v : V} {Q : VK} (h : SqH b H a xs) (hi : atI xs i = some v) (q : Q v H) : rIx K (.ref a) (.int i) H Q := by
  cases b with
  | true => exact .inr (.inl ⟨a, xs, i, v, rfl, rfl, SqT.of h, hi, q⟩)
  | false => exact .inl ⟨a, xs, i, v, rfl, rfl, SqL.of h, hi, q⟩
section
variable {P : Program} {w : World} {K : PySem.W.Frag} {mg : Str → Option Value} {base : Heap}
def spAble : Sp := fun vs H Q _ => ∃ (c : Int) (l : Addr) (b : Bool) (ls : List Int), vs = [.int c, .ref l] ∧ SqH b H l (ls.map V.int) ∧ ls.length ≤ 80000 ∧ ∀ (p : Addr) (H' : Hp), H p = none → Same H H' → H' p = some (.lst ((ableI c ls).map V.int)) → Q (.ref p) H'
theorem h_l_able (T : Txt K mg) : Has P w K mg base CX0 1 "_law_able" P_l_able spAble := by
  obtain ⟨f, fd, g, F⟩ := T.dfn ("_law_able", 51) (by decide +kernel)
  refine ⟨f, fd, g, F.kp, F.bindsN (fun _ _ _ _ _ _ us hl => match us, hl with | [_, _], _ => rfl), F.ok sc_l_able (fun vs H Q E h => ?_) fun cdv A outer s H vs Q E hr h => ?_⟩
  · obtain ⟨c, l, b, ls, rfl, _⟩ := h
    rfl
  · obtain ⟨c, l, b, ls, rfl, hs, hl, k⟩ := h
    refine ⟨_, PSs.nox (pss_one (ps_ret (pe_lc (own := [("_law_person", 2)]) (g := gName 2) (tt := tTest (tOp (rI0 fun i j => .bl (decide (j ≤ i))) (tOp (rIx K) (tVar 1) (tVar 2)) (tVar 0))) rfl sc_l_able.nd (pi_range1 rfl (T.free "range" (by decide)) (pa_cons (pe_callB call_len_seq rfl (T.free "len" (by decide)) (by decide +kernel) (pa_cons (pv 1) pa_nil)) pa_nil)) (blkOk_by (N := N_l_able) (sc := defScope s_l_able) (by decide +kernel)) (fun _ _ _ _ _ => pg_name (i := 2) sc_l_able.nd rfl (Or.inl rfl)) (fun _ _ _ _ _ => pts_one (pt_cmpR op_ge (pe_ix ix_seq (pv 1) (pv 2) (fun _ _ => rfl)) (pv 0) (nomark _))) (fun _ _ _ _ _ => (pv 2)))))
    , ?_⟩
    have hN : (((ls.map V.int).length : Nat) : Int).toNat = ls.length := by rw [List.length_map, Int.toNat_natCast]
    refine ⟨_, rfl, l, _, rfl, hs.len, _, rfl, by rw [List.length_map]; omega, by rw [List.length_map]; omega, fun D nD => lc_range (lo := 0) (n := (((ls.map V.int).length : Nat) : Int).toNat) (fun i H1 => H1 D = some (.lst ((ableN c ls i).map V.int)) ∧ Same H H1) ⟨upd_same, Same.new nD⟩ ?_ ?_⟩
    · rintro i H1 hi ⟨hD, s1⟩
      rw [hN] at hi
      refine ⟨rfl, ?_⟩
      have e := ableN_succ c ls i
      refine ⟨_, rfl, _, rfl, (hs.same s1).ix (v := .int (ls.getD i 0)) (by rw [Int.zero_add]; exact atI_nat (by rw [List.getElem?_map, List.getElem?_eq_getElem hi, getD_lt hi] <;> rfl)) ?_⟩
      refine ⟨_, rfl, _, _, rfl, rfl, _, rfl, ?_⟩
      refine if_dec (fun c1 => ?_) fun c1 => ?_
      · rw [if_pos c1] at e
        refine ⟨_, rfl, _, hD, Evl.sz_lt (by rw [List.length_map]; have := ableN_len c ls i; omega), ?_, s1.mut nD⟩
        rw [upd_same, e, List.map_append, Int.zero_add]
        rfl
      · rw [if_neg c1] at e
        exact ⟨by rw [e]; exact hD, s1⟩
    · rintro H1 ⟨hD, s1⟩
      rw [hN] at hD
      exact k D H1 nD s1 hD
/-- the law's purses: lists, each time new -/
structure Dz (H0 H : Hp) (L G C : Addr) (qs ts : List Addr) (ls : List Int) (ps : List (List Int)) (cs : List Call) : Prop where
  s : Same H0 H
  hL : H L = some (.lst (ls.map V.int))
  hG : H G = some (.lst (qs.map V.ref))
  hC : H C = some (.lst (ts.map V.ref))
  nL : H0 L = none
  nG : H0 G = none
  nC : H0 C = none
  LG : L ≠ G
  LC : L ≠ C
  GC : G ≠ C
  len : qs.length = ps.length
  q : ∀ (j : Nat) (q : Addr), qs[j]? = some q → q ≠ L ∧ q ≠ G ∧ q ≠ C ∧ H q = some (.lst ((ps.getD j []).map V.int))
  calls : CallsAt H ts cs
theorem Dz.same {H0 H H' : Hp} {L G C : Addr} {qs ts : List Addr} {ls : List Int} {ps : List (List Int)} {cs : List Call} (z : Dz H0 H L G C qs ts ls ps cs) (s : Same H H') : Dz H0 H' L G C qs ts ls ps cs :=
  ⟨z.s.trans s, s _ _ z.hL, s _ _ z.hG, s _ _ z.hC, z.nL, z.nG, z.nC, z.LG, z.LC, z.GC, z.len, fun j q h => by
    obtain ⟨a, b, c, e⟩ := z.q j q h
    exact ⟨a, b, c, s _ _ e⟩, z.calls.imp fun a xs h => s _ _ h⟩
/-- one more call -/
theorem Dz.call {H0 H : Hp} {L G C t u : Addr} {qs ts : List Addr} {ls : List Int} {ps : List (List Int)} {cs : List Call} {c : Int} {ns : List Int} (z : Dz H0 H L G C qs ts ls ps cs) (ht : H t = some (.tup [.int c, .ref u])) (hu : H u = some (.tup (ns.map V.int))) :
    Dz H0 (upd H C (.lst (ts.map V.ref ++ [.ref t]))) L G C qs (ts ++ [t]) ls ps (cs ++ [(c, ns)]) := by
  have tne : ∀ {a : Addr} {xs : List V}, H a = some (.tup xs) → a ≠ C := fun {a xs} h e => by
    rw [e, z.hC] at h
    cases h
  refine ⟨z.s.mut z.nC, (upd_ne z.LC).trans z.hL, (upd_ne z.GC).trans z.hG, by rw [upd_same, map_snoc], z.nL, z.nG, z.nC, z.LG, z.LC, z.GC, z.len, fun j q h => ?_, ?_⟩
  · obtain ⟨a, b, d, e⟩ := z.q j q h
    exact ⟨a, b, d, (upd_ne d).trans e⟩
  · exact (z.calls.imp fun a xs h => (upd_ne (tne h)).trans h).snoc ((upd_ne (tne ht)).trans ht) ((upd_ne (tne hu)).trans hu)
/-- the lacks written -/
theorem Dz.lack {H0 H : Hp} {L G C : Addr} {qs ts : List Addr} {ls : List Int} {ps : List (List Int)} {cs : List Call} {j : Nat} {x : Int} (z : Dz H0 H L G C qs ts ls ps cs) : Dz H0 (upd H L (.lst ((ls.map V.int).set j (.int x)))) L G C qs ts (ls.set j x) ps cs := by
  have tne : ∀ {a : Addr} {xs : List V}, H a = some (.tup xs) → a ≠ L := fun {a xs} h e => by
    rw [e, z.hL] at h
    cases h
  refine ⟨z.s.mut z.nL, by rw [upd_same, List.map_set], (upd_ne (Ne.symm z.LG)).trans z.hG, (upd_ne (Ne.symm z.LC)).trans z.hC, z.nL, z.nG, z.nC, z.LG, z.LC, z.GC, z.len, fun i q h => ?_, ?_⟩
  · obtain ⟨a, b, d, e⟩ := z.q i q h
    exact ⟨a, b, d, (upd_ne a).trans e⟩
  · exact z.calls.imp fun a xs h => (upd_ne (tne h)).trans h
/-- a purse's place given a new list -/
theorem Dz.put {H0 H : Hp} {L G C r : Addr} {qs ts : List Addr} {ls : List Int} {ps : List (List Int)} {cs : List Call} {j : Nat} {ns : List Int} (z : Dz H0 H L G C qs ts ls ps cs) (hj : j < qs.length) (hr : H r = some (.lst (ns.map V.int))) (rL : r ≠ L) (rG : r ≠ G) (rC : r ≠ C) :
    Dz H0 (upd H G (.lst ((qs.map V.ref).set j (.ref r)))) L G C (qs.set j r) ts ls (ps.set j ns) cs := by
  have tne : ∀ {a : Addr} {xs : List V}, H a = some (.tup xs) → a ≠ G := fun {a xs} h e => by
    rw [e, z.hG] at h
    cases h
  refine ⟨z.s.mut z.nG, (upd_ne z.LG).trans z.hL, by rw [upd_same, List.map_set], (upd_ne (Ne.symm z.GC)).trans z.hC, z.nL, z.nG, z.nC, z.LG, z.LC, z.GC, by rw [List.length_set, List.length_set]; exact z.len, fun i q h => ?_, ?_⟩
  · rw [getD_set _ _ _ _ _ (by rw [← z.len]; exact hj)]
    by_cases e : i = j
    · subst e
      rw [List.getElem?_set_self hj] at h
      cases Option.some.inj h
      rw [if_pos rfl]
      exact ⟨rL, rG, rC, (upd_ne rG).trans hr⟩
    · rw [List.getElem?_set_ne (Ne.symm e)] at h
      obtain ⟨a, b, d, f⟩ := z.q i q h
      rw [if_neg e]
      exact ⟨a, b, d, (upd_ne b).trans f⟩
  · exact z.calls.imp fun a xs h => (upd_ne (tne h)).trans h
def spDue : Sp := fun vs H Q _ => ∃ (a u pk : Addr) (bad : Int) (coins W picks : List Int), vs = [.ref a, .ref u, .ref pk, .int bad] ∧ H a = some (.lst (coins.map V.int)) ∧ H u = some (.tup (W.map V.int)) ∧ H pk = some (.lst (picks.map V.int)) ∧ coins.length ≤ 12 ∧ picks.length = coins.length ∧ W.length ≤ 5 ∧
  ∀ (p : Addr) (x : V) (ca : Addr) (ts : List Addr) (H' : Hp), H p = none → Same H H' → DueAt H' p x ca ts (play (ansD picks bad) coins W) → Q (.ref p) H'
theorem h_l_due (T : Txt K mg) : Has P w K mg base CX0 2 "_law_due" P_l_due spDue := by
  obtain ⟨f, fd, g, F⟩ := T.dfn ("_law_due", 52) (by decide +kernel)
  have h_l_able := h_l_able (P := P) (w := w) (base := base) T
  refine ⟨f, fd, g, F.kp, F.bindsN (fun _ _ _ _ _ _ us hl => match us, hl with | [_, _, _, _], _ => rfl), F.ok sc_l_due (fun vs H Q E h => ?_) fun cdv A outer s H vs Q E hr h => ?_⟩
  · obtain ⟨a, u, pk, bad, coins, W, picks, rfl, _⟩ := h
    rfl
  · obtain ⟨a, u, pk, bad, coins, W, picks, rfl, ha, hu, hpk, hl, hpl, hw, k⟩ := h
    refine ⟨_, PSs.nox (pss_cons (ps_set (i := 4) sc_l_due.nd rfl (Or.inl rfl) (pe_callTy call_list_of rfl (T.free "list" (by decide)) (by decide +kernel) (pa_cons (pv 1) pa_nil)))
  (pss_cons (ps_setLc (i := 5) (own := [("_law_lack", 11)]) (g := gName 11) (tt := tYes) rfl sc_l_due.nd rfl rfl (sw_true rfl rfl rfl (by decide +kernel)) (pi_list (pv 4)) (blkOk_by (N := N_l_due) (sc := defScope s_l_due) (by decide +kernel)) (fun _ _ _ _ _ => pg_name (i := 11) sc_l_due.nd rfl (Or.inl rfl)) (fun _ _ _ _ _ => pts_nil) (fun _ _ _ _ _ => (pe_lst pa_nil)))
  (pss_cons (ps_set (i := 6) sc_l_due.nd rfl (Or.inl rfl) (pe_lst pa_nil))
  (pss_cons (ps_for PassesOwn.never rfl (pi_range1 rfl (T.free "range" (by decide)) (pa_cons (pe_callB call_len_seq rfl (T.free "len" (by decide)) (by decide +kernel) (pa_cons (pv 0) pa_nil)) pa_nil)) (pg_name (i := 7) sc_l_due.nd rfl (Or.inl rfl))
    (pss_cons (ps_set (i := 8) sc_l_due.nd rfl (Or.inl rfl) (pe_ix ix_list (pv 0) (pe_op op_sub (pe_op op_sub (pe_callB call_len_seq rfl (T.free "len" (by decide)) (by decide +kernel) (pa_cons (pv 0) pa_nil)) pe_int) (pv 7)) (fun _ _ => rfl)))
    (pss_cons (ps_set (i := 9) sc_l_due.nd rfl (Or.inl rfl) (pe_has h_l_able hr (by decide) (pa_cons (pv 8) (pa_cons (pv 4) pa_nil))))
    (pss_cons (ps_if (pt_cmpR (op_eqD hr.units) (pv 9) (pe_lst pa_nil) (nomark _))
      (pss_one (ps_ret (pe_lst (pa_cons pe_str (pa_cons (pe_tup (pa_cons (pv 8) (pa_cons (pe_callTy call_tuple_of rfl (T.free "tuple" (by decide)) (by decide +kernel) (pa_cons (pv 4) pa_nil)) pa_nil))) (pa_cons (pv 6) pa_nil))))))
      pss_nil)
    (pss_cons (ps_expr (pe_bm PySem.F.plainAttrs_list PySem.F.slot_list_append PySem.F.type_list_append mt_append (pv 6) (pa_cons (pe_tup (pa_cons (pv 8) (pa_cons (pe_callTy call_tuple_of rfl (T.free "tuple" (by decide)) (by decide +kernel) (pa_cons (pv 4) pa_nil)) pa_nil))) pa_nil)))
    (pss_cons (ps_if (pt_cmpR op_eq (pv 7) (pv 3) (nomark _))
      (pss_one (ps_ret (pe_lst (pa_cons pe_str (pa_cons (pv 7) (pa_cons (pv 6) pa_nil))))))
      pss_nil)
    (pss_cons (ps_set (i := 10) sc_l_due.nd rfl (Or.inl rfl) (pe_ix ix_list (pv 9) (pe_op op_mod (pe_callTy call_int1 rfl (T.free "int" (by decide)) (by decide +kernel) (pa_cons (pe_ix ix_list (pv 2) (pv 7) (fun _ _ => rfl)) pa_nil)) (pe_callB call_len_seq rfl (T.free "len" (by decide)) (by decide +kernel) (pa_cons (pv 9) pa_nil))) (fun _ _ => rfl)))
    (pss_cons (ps_asg (pe_op op_sub (pe_ix ix_list (pv 4) (pv 10) (fun _ _ => rfl)) (pv 8)) (pg_sub (pv 4) (pv 10) set_list))
    (pss_one (ps_asg (pe_op op_cat (pe_lst (pa_cons (pv 8) pa_nil)) (pe_ix ix_list (pv 5) (pv 10) (fun _ _ => rfl))) (pg_sub (pv 5) (pv 10) set_list)))))))))))
  (pss_one (ps_ret (pe_lst (pa_cons pe_str (pa_cons (pe_callTy call_tuple_of rfl (T.free "tuple" (by decide)) (by decide +kernel) (pa_cons (pe_lc (own := [("_law_purse", 12)]) (g := gName 12) (tt := tYes) (te := tCB (rTupOf K) (tCons (tVar 12) tNil)) rfl sc_l_due.nd (pi_list (pv 5)) (blkOk_by (N := N_l_due) (sc := defScope s_l_due) (by decide +kernel)) (fun _ _ _ _ _ => pg_name (i := 12) sc_l_due.nd rfl (Or.inl rfl)) (fun _ _ _ _ _ => pts_nil) (fun _ _ _ _ _ => (pe_callTy call_tuple_of rfl (T.free "tuple" (by decide)) (by decide +kernel) (pa_cons (pv 12) pa_nil)))) pa_nil)) (pa_cons (pv 6) pa_nil))))))))))
    , ?_⟩
    refine ⟨_, rfl, u, _, rfl, .inr (SqT.of hu), fun L nL => ?_⟩
    refine ⟨_, rfl, L, rfl, ⟨_, SqL.of upd_same⟩, fun G nG => lc_list (K := K) (a := L) (xs := W.map V.int) (fun i H1 => ∃ qs : List Addr, H1 G = some (.lst (qs.map V.ref)) ∧ qs.length = i ∧ (∀ q ∈ qs, q ≠ L ∧ q ≠ G ∧ H1 q = some (.lst [])) ∧ Same (upd H L (.lst (W.map V.int))) H1)
      ⟨[], upd_same, rfl, by simp, Same.new nG⟩ (fun i H1 _ ⟨_, _, _, _, s1⟩ => SqL.of (s1 _ _ upd_same)) ?_ ?_⟩
    · rintro i v H1 hi ⟨qs, hG, hql, hq, s1⟩
      have hw1 := (List.getElem?_eq_some_iff.mp hi).1
      rw [List.length_map] at hw1
      refine ⟨rfl, ?_⟩
      refine ⟨Evl.sz_of (show (0 : Nat) ≤ _ from by decide), fun r nr => ?_⟩
      have rG : r ≠ G := fun z => by
        rw [← z, nr] at hG
        cases hG
      have rL : r ≠ L := fun z => by
        have e := s1 L _ upd_same
        rw [← z, nr] at e
        cases e
      refine ⟨_, (upd_ne (Ne.symm rG)).trans hG, Evl.sz_lt (by rw [List.length_map]; omega), qs ++ [r], by rw [upd_same, map_snoc], by rw [List.length_append, hql] <;> rfl, fun q hq2 => ?_, (s1.trans (Same.new nr)).mut nG⟩
      rcases List.mem_append.mp hq2 with hq2 | hq2
      · obtain ⟨h1, h2, h3⟩ := hq q hq2
        exact ⟨h1, h2, (upd_ne h2).trans ((upd_ne (ne_of_none h3 nr)).trans h3)⟩
      · rw [List.mem_singleton.mp hq2]
        exact ⟨rL, rG, (upd_ne rG).trans upd_same⟩
    · rintro H1 ⟨qs, hG, hql, hq, s1⟩
      rw [List.length_map] at hql
      refine ⟨Evl.sz_of (show (0 : Nat) ≤ _ from by decide), fun C nC => ?_⟩
      have sL : Same H (upd H L (.lst (W.map V.int))) := Same.new nL
      have s2 := sL.trans s1
      have hL1 := s1 L _ upd_same
      have neq : ∀ {b : Addr} {o : HO}, H1 b = some o → b ≠ C := fun {b o} h e => by
        rw [e, nC] at h
        cases h
      have LG : L ≠ G := fun z => by
        rw [← z, upd_same] at nG
        cases nG
      have z0 : Dz H (upd H1 C (.lst [])) L G C qs [] W (W.map fun _ => []) [] := by
        refine ⟨s2.trans (Same.new nC), Same.new nC _ _ hL1, Same.new nC _ _ hG, upd_same, nL, sL.free nG, s2.free nC, LG, neq hL1, neq hG, by rw [List.length_map]; exact hql, fun j q hj => ?_, .nil⟩
        obtain ⟨h1, h2, h3⟩ := hq q (List.mem_of_getElem? hj)
        refine ⟨h1, h2, neq h3, ?_⟩
        have hjl : j < W.length := by
          have := (List.getElem?_eq_some_iff.mp hj).1
          omega
        rw [getD_lt (by simpa using hjl), List.getElem_map]
        exact Same.new nC _ _ h3
      have hN : (((coins.map V.int).length : Nat) : Int).toNat = coins.length := by rw [List.length_map, Int.toNat_natCast]
      refine ⟨_, rfl, a, _, rfl, .inl (SqL.of (z0.s _ _ ha)), _, rfl, by rw [List.length_map]; omega, by rw [List.length_map]; omega, for_range (lo := 0) (n := (((coins.map V.int).length : Nat) : Int).toNat) (fun i σ H2 => ∃ (qs ts : List Addr) (ls : List Int) (ps : List (List Int)) (cs : List Call) (x7 x8 x9 x10 : Option V), σ = [some (.ref a), some (.ref u), some (.ref pk), some (.int bad), some (.ref L), some (.ref G), some (.ref C), x7, x8, x9, x10, none, none] ∧
        Dz H H2 L G C qs ts ls ps cs ∧ cs.length = i ∧ ls.length = W.length ∧ ps.length = W.length ∧ (∀ p ∈ ps, p.length ≤ i) ∧ ho (ansD picks bad) i (coins.reverse.drop i) ls ps cs = play (ansD picks bad) coins W)
        ⟨qs, [], W, _, [], none, none, none, none, rfl, z0, rfl, rfl, by simp, by simp, rfl⟩ ?_ ?_⟩
      · rintro i σ H2 hi ⟨qs, ts, ls, ps, cs, x7, x8, x9, x10, rfl, z, hcl, hll, hpsl, hb, hm⟩
        rw [hN] at hi
        rw [Int.zero_add]
        have hir : i < coins.reverse.length := by rw [List.length_reverse]; exact hi
        obtain ⟨c, hc⟩ : ∃ c, coins.reverse[i]? = some c := ⟨_, List.getElem?_eq_getElem hir⟩
        have hc2 := (List.getElem?_eq_some_iff.mp hc).2
        have hdrop : coins.reverse.drop i = c :: coins.reverse.drop (i + 1) := by rw [List.drop_eq_getElem_cons hir, hc2]
        rw [hdrop] at hm
        unfold ho at hm
        have hat : atI (coins.map V.int) ((((coins.map V.int).length : Nat) : Int) - 1 - (i : Int)) = some (V.int c) := by
          have e : (((coins.map V.int).length : Nat) : Int) - 1 - (i : Int) = ((coins.length - 1 - i : Nat) : Int) := by
            rw [List.length_map]
            omega
          rw [e]
          refine atI_nat ?_
          rw [List.getElem?_map, ← List.getElem?_reverse hi, hc]
          rfl
        have ha2 := z.s _ _ ha
        refine ⟨_, rfl, _, rfl, a, _, rfl, .inl (SqL.of ha2), _, _, rfl, rfl, _, rfl, _, _, rfl, rfl, a, _, _, .int c, rfl, rfl, SqL.of ha2, hat, ?_⟩
        refine ⟨_, rfl, _, rfl, c, L, false, ls, rfl, z.hL, by omega, fun p9 H3 np9 s3 hp9 => ?_⟩
        have z3 := z.same s3
        refine ⟨_, rfl, Evl.sz_of (show (0 : Nat) ≤ _ from by decide), fun e1 ne1 => ?_⟩
        have z4 := z3.same (Same.new (o := .lst []) ne1)
        have hp94 := Same.new (o := .lst []) ne1 _ _ hp9
        refine ⟨_, _, .lst (SqL.of hp94) (dp_ints _), .lst (SqL.of upd_same) .nil, (Fl.list (k := 0) (fl_ints _)).shaped (by decide), (Fl.list (k := 0) (xs := []) (by simp)).shaped (by decide), _, rfl, ?_⟩
        rw [eqv_nil]
        generalize upd H3 e1 (.lst []) = H4 at z4 hp94
        refine if_dec (fun hab => ?_) fun hab => ?_
        · have hall := able_nil.mp (ableI_nil.mp hab)
          rw [hall, if_pos rfl] at hm
          refine ⟨_, rfl, _, rfl, L, _, rfl, .inl ⟨SqL.of z4.hL, fun t nt => ?_⟩⟩
          refine ⟨Evl.sz_of (show (2 : Nat) ≤ _ from by decide), fun t2 nt2 => ⟨_, rfl, Evl.sz_of (show (3 : Nat) ≤ _ from by decide), fun p np => ?_⟩⟩
          have z5 := ((z4.same (Same.new (o := .tup (ls.map V.int)) nt)).same (Same.new (o := .tup [.int c, .ref t]) nt2)).same (Same.new (o := .lst [.str "stuck", .ref t2, .ref C]) np)
          refine k p (.ref t2) C ts _ (z4.s.free ((Same.new nt).free ((Same.new nt2).free np))) z5.s ?_
          rw [← hm]
          exact ⟨upd_same, z5.hC, z5.calls, t2, t, rfl, Same.new np _ _ upd_same, Same.new np _ _ (Same.new nt2 _ _ upd_same)⟩
        · have hab2 : able c ls ≠ [] := fun z => hab (ableI_nil.mpr z)
          have hall : (ls.all fun l => decide (l < c)) = false := by
            cases e : ls.all fun l => decide (l < c) with
            | false => rfl
            | true => exact absurd (able_nil.mpr e) hab2
          rw [hall, if_neg (by decide)] at hm
          refine ⟨_, rfl, .inl ⟨rfl, _, SqL.of z4.hC⟩, _, rfl, _, rfl, L, _, rfl, .inl ⟨SqL.of z4.hL, fun t nt => ?_⟩⟩
          refine ⟨Evl.sz_of (show (2 : Nat) ≤ _ from by decide), fun t2 nt2 => ?_⟩
          have sT := (Same.new (o := .tup (ls.map V.int)) nt).trans (Same.new (o := .tup [.int c, .ref t]) nt2)
          have z5 := z4.same sT
          have ht5 : upd (upd H4 t (.tup (ls.map V.int))) t2 (.tup [.int c, .ref t]) t = some (.tup (ls.map V.int)) := Same.new nt2 _ _ upd_same
          have ht25 : upd (upd H4 t (.tup (ls.map V.int))) t2 (.tup [.int c, .ref t]) t2 = some (.tup [.int c, .ref t]) := upd_same
          have hp95 := sT _ _ hp94
          generalize upd (upd H4 t (.tup (ls.map V.int))) t2 (.tup [.int c, .ref t]) = H5 at z5 ht5 ht25 hp95
          have hcl2 := z5.calls.len
          refine ⟨C, _, _, rfl, rfl, z5.hC, Evl.sz_lt (by rw [List.length_map]; omega), ?_⟩
          have z6 := z5.call ht25 ht5
          have hp9C : p9 ≠ C := fun e => by
            have h1 := z.hC
            rw [← e] at h1
            rw [np9] at h1
            cases h1
          have hp96 : upd H5 C (.lst (ts.map V.ref ++ [.ref t2])) p9 = some (.lst ((ableI c ls).map V.int)) := (upd_ne hp9C).trans hp95
          generalize upd H5 C (.lst (ts.map V.ref ++ [.ref t2])) = H6 at z6 hp96
          refine ⟨_, rfl, _, rfl, rfl, _, rfl, ?_⟩
          refine if_eqI (fun hb1 => ?_) fun hb1 => ?_
          · have hans : ansD picks bad cs (c, ls) = some none := by
              unfold ansD
              rw [if_pos (by omega)]
            rw [hans] at hm
            refine ⟨_, rfl, _, rfl, Evl.sz_of (show (3 : Nat) ≤ _ from by decide), fun p np => ?_⟩
            have z7 := z6.same (Same.new (o := .lst [.str "bad", .int (i : Int), .ref C]) np)
            refine k p (.int (i : Int)) C (ts ++ [t2]) _ (z6.s.free np) z7.s ?_
            rw [← hm]
            exact ⟨upd_same, z7.hC, z7.calls, rfl⟩
          · have hans : ansD picks bad cs (c, ls) = some (some (pick picks i c ls)) := by
              unfold ansD
              rw [if_neg (by omega), hcl]
            rw [hans] at hm
            obtain ⟨hj, hcj⟩ := mem_able.mp (pick_able (ps := picks) (t := i) hab2)
            have hpk6 := z6.s _ _ hpk
            have hpi : i < picks.length := by omega
            have hpe : (pick picks i c ls : Nat) = (able c ls).getD ((picks.getD i 0) % ((able c ls).length : Int)).toNat 0 := rfl
            refine ⟨_, rfl, _, rfl, _, rfl, pk, _, _, .int (picks.getD i 0), rfl, rfl, SqL.of hpk6, atI_nat (by rw [List.getElem?_map, List.getElem?_eq_getElem hpi, getD_lt hpi] <;> rfl), .inl ⟨_, rfl, ?_⟩⟩
            have hlen : 0 < (able c ls).length := by
              cases e : able c ls with
              | nil => exact absurd e hab2
              | cons a r => exact Nat.succ_pos _
            refine ⟨_, rfl, p9, _, rfl, .inl (SqL.of hp96), _, _, rfl, rfl, ?_, p9, _, _, _, rfl, rfl, SqL.of hp96, ableI_at hab2, ?_⟩
            · show (0 : Int) < (((ableI c ls).map V.int).length : Nat)
              unfold ableI
              rw [List.length_map, List.length_map]
              omega
            rw [← hpe]
            generalize pick picks i c ls = j at hj hcj hm
            refine ⟨_, rfl, _, rfl, L, _, _, .int (ls.getD j 0), rfl, rfl, SqL.of z6.hL, atI_nat (by rw [List.getElem?_map, List.getElem?_eq_getElem hj, getD_lt hj] <;> rfl), _, rfl, _, _, rfl, rfl, _, rfl, _, rfl, L, _, _, j, rfl, rfl, z6.hL, by rw [List.length_map]; exact Evl.ixN_nat hj, ?_⟩
            have z7 := z6.lack (j := j) (x := ls.getD j 0 - c)
            generalize upd H6 L (.lst ((ls.map V.int).set j (.int (ls.getD j 0 - c)))) = H7 at z7
            have hjq : j < qs.length := by
              have := z7.len
              omega
            have hjp : j < ps.length := by omega
            have hqe : qs[j]? = some qs[j] := List.getElem?_eq_getElem hjq
            refine ⟨_, rfl, Evl.sz_of (show (1 : Nat) ≤ _ from by decide), fun n1 nn1 => ?_⟩
            have z8 := z7.same (Same.new (o := .lst [.int c]) nn1)
            have hn8 : upd H7 n1 (.lst [.int c]) n1 = some (.lst [.int c]) := upd_same
            generalize upd H7 n1 (.lst [.int c]) = H8 at z8 hn8
            obtain ⟨q1, q2, q3, q4⟩ := z8.q j _ hqe
            have hpj := hb _ (getD_mem hjp)
            refine ⟨_, rfl, _, rfl, G, _, _, .ref qs[j], rfl, rfl, SqL.of z8.hG, atI_nat (by rw [List.getElem?_map, hqe] <;> rfl), n1, qs[j], _, _, rfl, rfl, hn8, q4, Evl.sz_of (by rw [List.length_map]; show 1 + (ps.getD j []).length ≤ _; omega), fun n2 nn2 => ?_⟩
            have z9 := z8.same (Same.new (o := .lst ([.int c] ++ (ps.getD j []).map V.int)) nn2)
            have hn9 : upd H8 n2 (.lst ([.int c] ++ (ps.getD j []).map V.int)) n2 = some (.lst ((c :: ps.getD j []).map V.int)) := upd_same
            have nL2 : n2 ≠ L := fun e => by
              have h := z8.hL
              rw [← e, nn2] at h
              cases h
            have nG2 : n2 ≠ G := fun e => by
              have h := z8.hG
              rw [← e, nn2] at h
              cases h
            have nC2 : n2 ≠ C := fun e => by
              have h := z8.hC
              rw [← e, nn2] at h
              cases h
            generalize upd H8 n2 (.lst ([.int c] ++ (ps.getD j []).map V.int)) = H9 at z9 hn9
            refine ⟨_, rfl, _, rfl, G, _, _, j, rfl, rfl, z9.hG, by rw [List.length_map]; exact Evl.ixN_nat hjq, ?_⟩
            have z10 := z9.put hjq hn9 nL2 nG2 nC2
            refine ⟨_, _, _, _, _, _, _, _, _, rfl, z10, by rw [List.length_append, hcl] <;> rfl, by rw [List.length_set]; exact hll, by rw [List.length_set]; exact hpsl, fun p hp => ?_, hm⟩
            rcases mem_set hp with e | e
            · rw [e, List.length_cons]
              omega
            · exact Nat.le_succ_of_le (hb p e)
      · rintro σ H2 ⟨qs, ts, ls, ps, cs, x7, x8, x9, x10, rfl, z, hcl, hll, hpsl, hb, hm⟩
        rw [hN] at hm
        have hd : coins.reverse.drop coins.length = [] := by rw [List.drop_of_length_le (by simp)]
        rw [hd] at hm
        have hm2 : play (ansD picks bad) coins W = (.split ps, cs) := hm.symm
        refine ⟨_, rfl, G, rfl, ⟨_, SqL.of z.hG⟩, fun D2 nD2 => lc_list (K := K) (a := G) (xs := qs.map V.ref) (fun i H3 => ∃ rs : List Addr, H3 D2 = some (.lst (rs.map V.ref)) ∧ TupsAt H3 rs (ps.take i) ∧ Same H2 H3)
          ⟨[], upd_same, by simpa using TupsAt.nil, Same.new nD2⟩ (fun i H3 _ ⟨_, _, _, s4⟩ => SqL.of (s4 _ _ z.hG)) ?_ ?_⟩
        · rintro i v H3 hi ⟨rs, hD2, ht, s4⟩
          obtain ⟨r, hr, rfl⟩ := at_map hi
          obtain ⟨_, _, _, hqr⟩ := z.q i r hr
          have hil : i < ps.length := by
            have := (List.getElem?_eq_some_iff.mp hr).1
            have := z.len
            omega
          refine ⟨rfl, ?_⟩
          refine ⟨_, rfl, r, _, rfl, .inl ⟨SqL.of (s4 _ _ hqr), fun b nb => ?_⟩⟩
          have bD : b ≠ D2 := fun e => by
            rw [← e, nb] at hD2
            cases hD2
          have htl := ht.len
          rw [List.length_take] at htl
          refine ⟨_, (upd_ne (Ne.symm bD)).trans hD2, Evl.sz_lt (by rw [List.length_map]; omega), rs ++ [b], by rw [upd_same, map_snoc], ?_, (s4.trans (Same.new nb)).mut nD2⟩
          have e : ps.take (i + 1) = ps.take i ++ [ps.getD i []] := by
            rw [List.take_add_one, List.getElem?_eq_getElem hil, Hand.getD_lt hil]
            rfl
          rw [e]
          refine (ht.imp fun a xs h => ?_).snoc ((upd_ne bD).trans upd_same)
          have n1 : a ≠ D2 := fun z => by
            rw [z, hD2] at h
            cases h
          exact (upd_ne n1).trans (Same.new nb _ _ h)
        · rintro H3 ⟨rs, hD2, ht, s4⟩
          have e : ps.take (qs.map V.ref).length = ps := by rw [List.length_map, z.len, List.take_length]
          rw [e] at ht
          refine ⟨D2, _, rfl, .inl ⟨SqL.of hD2, fun p2 np2 => ?_⟩⟩
          have s5 := s4.trans (Same.new (o := .tup (rs.map V.ref)) np2)
          have z5 := z.same s5
          have hp2 : upd H3 p2 (.tup (rs.map V.ref)) p2 = some (.tup (rs.map V.ref)) := upd_same
          have ht5 := ht.imp fun a xs h => Same.new (o := .tup (rs.map V.ref)) np2 _ _ h
          generalize upd H3 p2 (.tup (rs.map V.ref)) = H4 at z5 hp2 ht5
          refine ⟨_, rfl, Evl.sz_of (show (3 : Nat) ≤ _ from by decide), fun p3 np3 => ?_⟩
          have z6 := z5.same (Same.new (o := .lst [.str "split", .ref p2, .ref C]) np3)
          refine k p3 (.ref p2) C ts _ (z5.s.free np3) z6.s ?_
          rw [hm2]
          exact ⟨upd_same, z6.hC, z6.calls, p2, rs, rfl, Same.new np3 _ _ hp2, ht5.imp fun a xs h => Same.new np3 _ _ h⟩
end
end K12

set_option Elab.async false
set_option linter.all false
set_option maxRecDepth 100000
set_option maxHeartbeats 8000000
/-! What is told against what is due; the function that chooses; the program asked. -/
namespace K12
open PySem PySem.Spec PyProof.Rows L2 K12L Hand RZ
local macro_rules | `(tactic| walk_at "rd") => `(tactic| repeat (first | (with_reducible exact trivial) | refine ⟨_, rfl, ?_⟩ | refine ⟨_, _, rfl, rfl, ?_⟩ | refine Or.inl ⟨_, rfl, ?_⟩ | refine ⟨Or.inr ⟨by decide, by decide⟩, ?_⟩ | refine ⟨Or.inl ⟨by omega, by omega⟩, ?_⟩ | refine ⟨⟨by decide, by decide +kernel⟩, ?_⟩ | refine ⟨(show (0 : Int) < _ from by decide), ?_⟩ | refine ⟨(show (0 : Int) < _ from by omega), ?_⟩ | refine ⟨cdivW (by omega) (by omega), ?_⟩ | refine ⟨_, _, _, _, rfl, rfl, SqL.of (by first | assumption | exact upd_same), by rfl, ?_⟩ | refine ⟨_, _, _, _, rfl, rfl, (by first | assumption | exact upd_same), by rfl, ?_⟩ | refine ⟨_, _, rfl, Or.inl (SqL.of (by first | assumption | exact upd_same)), ?_⟩ | refine ⟨Or.inl ⟨rfl, _, SqL.of (by first | assumption | exact upd_same)⟩, ?_⟩ | refine ⟨_, _, _, rfl, rfl, (by first | assumption | exact upd_same), (Evl.sz_lt (by first | omega | (simp only [List.length_map]; omega))), ?_⟩ | refine ⟨rfl, ?_⟩))
/-- what an end must be -/
def Good (W coins : List Int) : HEnd → Prop
  | .split ps => Split W coins ps
  | .stuck _ ls => ls.length = W.length
  | .bad _ => True
  | .lost => False
section
variable {P : Program} {w : World} {K : PySem.W.Frag} {mg : Str → Option Value} {base : Heap}
def spSame : Sp := fun vs H Q _ => ∃ (p1 p2 a u c1 c2 : Addr) (x1 x2 : V) (t1 t2 : List Addr) (coins W : List Int) (r : HEnd × List Call), vs = [.ref p1, .ref p2, .ref a, .ref u] ∧ DueAt H p1 x1 c1 t1 r ∧ DueAt H p2 x2 c2 t2 r ∧ H a = some (.lst (coins.map V.int)) ∧ H u = some (.tup (W.map V.int)) ∧
  Good W coins r.1 ∧ coins.Pairwise (· ≤ ·) ∧ coins.length ≤ 12 ∧ W.length ≤ 5 ∧ ∀ H', Same H H' → Q (.bl true) H'
theorem h_l_same (T : Txt K mg) : Has P w K mg base CX0 4 "_law_same" P_l_same spSame := by
  obtain ⟨f, fd, g, F⟩ := T.dfn ("_law_same", 60) (by decide +kernel)
  have h_l_whole := h_l_whole (P := P) (w := w) (base := base) T
  have h_l_is_split := h_l_is_split (P := P) (w := w) (base := base) T
  have h_l_numbers := h_l_numbers (P := P) (w := w) (base := base) T
  refine ⟨f, fd, g, F.kp, F.bindsN (fun _ _ _ _ _ _ us hl => match us, hl with | [_, _, _, _], _ => rfl), F.ok sc_l_same (fun vs H Q E h => ?_) fun cdv A outer s H vs Q E hr h => ?_⟩
  · obtain ⟨p1, p2, a, u, c1, c2, x1, x2, t1, t2, coins, W, r, rfl, _⟩ := h
    rfl
  · obtain ⟨p1, p2, a, u, c1, c2, x1, x2, t1, t2, coins, W, r, rfl, d1, d2, ha, hu, hg, asc, hl, hw, k⟩ := h
    refine ⟨_, PSs.nox (pss_cons (ps_if (pt_cmpR (op_neD hr.units) (pv 0) (pv 1) (nomark _))
    (pss_one (ps_ret pe_bl))
    pss_nil)
  (pss_cons (ps_if (pt_cmpR op_eq (pe_ix ix_list (pv 1) pe_int (fun _ _ => rfl)) pe_str (nomark _))
    (pss_one (ps_ret (pe_has h_l_whole hr (by decide) (pa_cons (pe_ix ix_list (pv 0) pe_int (fun _ _ => rfl)) pa_nil))))
    pss_nil)
  (pss_cons (ps_if (pt_cmpR op_eq (pe_ix ix_list (pv 1) pe_int (fun _ _ => rfl)) pe_str (nomark _))
    (pss_one (ps_ret (pe_has h_l_is_split hr (by decide) (pa_cons (pe_ix ix_list (pv 0) pe_int (fun _ _ => rfl)) (pa_cons (pv 2) (pa_cons (pv 3) pa_nil))))))
    pss_nil)
  (pss_one (ps_ret (pe_and (pe_has h_l_whole hr (by decide) (pa_cons (pe_ix ix_tup (pe_ix ix_list (pv 0) pe_int (fun _ _ => rfl)) pe_int (fun _ _ => rfl)) pa_nil)) (pe_one (pe_has h_l_numbers hr (by decide) (pa_cons (pe_ix ix_tup (pe_ix ix_list (pv 0) pe_int (fun _ _ => rfl)) pe_int (fun _ _ => rfl)) (pa_cons (pe_callB call_len_seq rfl (T.free "len" (by decide)) (by decide +kernel) (pa_cons (pv 3) pa_nil)) pa_nil))))))))))
    , ?_⟩
    have fl : SeqAt.shaped (dDue r) = true := (fl_due r).shaped (by decide)
    refine ⟨_, rfl, _, rfl, dDue r, dDue r, d1.dp, d2.dp, fl, fl, _, rfl, ?_⟩
    rw [SeqAt.eqv_refl _ (fl_due r).1]
    obtain ⟨e, cs⟩ := r
    have h1 := d1.hp
    have h2 := d2.hp
    have en := d1.en
    refine ⟨_, rfl, p2, _, _, _, rfl, rfl, SqL.of h2, atI_nat (j := 0) rfl, rfl, _, rfl, ?_⟩
    cases e with
    | bad t =>
      rw [decide_eq_true (show V.str (kindS (HEnd.bad t)) = V.str "bad" from rfl)]
      have en : x1 = .int (t : Int) := en
      subst en
      exact ⟨_, rfl, p1, _, _, _, rfl, rfl, SqL.of h1, atI_nat (j := 1) rfl, (t : Int), rfl, k H (Same.refl H)⟩
    | split ps =>
      rw [decide_eq_false (show ¬ V.str (kindS (HEnd.split ps)) = V.str "bad" by show ¬ V.str "split" = V.str "bad"; decide +kernel)]
      refine ⟨_, rfl, p2, _, _, _, rfl, rfl, SqL.of h2, atI_nat (j := 0) rfl, rfl, _, rfl, ?_⟩
      rw [decide_eq_true (show V.str (kindS (HEnd.split ps)) = V.str "split" from rfl)]
      obtain ⟨t, qs, rfl, e2, e3⟩ := en
      exact ⟨_, rfl, p1, _, _, _, rfl, rfl, SqL.of h1, atI_nat (j := 1) rfl, _, rfl, _, rfl, t, a, u, qs, ps, coins, W, rfl, e2, e3, ha, hu, hg, asc, hl, k⟩
    | stuck c ls =>
      rw [decide_eq_false (show ¬ V.str (kindS (HEnd.stuck c ls)) = V.str "bad" by show ¬ V.str "stuck" = V.str "bad"; decide +kernel)]
      refine ⟨_, rfl, p2, _, _, _, rfl, rfl, SqL.of h2, atI_nat (j := 0) rfl, rfl, _, rfl, ?_⟩
      rw [decide_eq_false (show ¬ V.str (kindS (HEnd.stuck c ls)) = V.str "split" by show ¬ V.str "stuck" = V.str "split"; decide +kernel)]
      obtain ⟨t, v, rfl, e2, e3⟩ := en
      have hgl : ls.length = W.length := hg
      refine ⟨_, rfl, p1, _, _, _, rfl, rfl, SqL.of h1, atI_nat (j := 1) rfl, t, _, _, _, rfl, rfl, SqT.of e2, atI_nat (j := 0) rfl, c, rfl, ?_⟩
      refine ⟨_, rfl, _, rfl, p1, _, _, _, rfl, rfl, SqL.of h1, atI_nat (j := 1) rfl, t, _, _, _, rfl, rfl, SqT.of e2, atI_nat (j := 1) rfl, _, rfl, u, _, rfl, .inr (SqT.of hu), v, ls, by rw [List.length_map, hgl]; rfl, e3, by omega, k⟩
    | lost => exact False.elim en
end
end K12

set_option Elab.async false
set_option linter.all false
set_option maxRecDepth 100000
set_option maxHeartbeats 8000000
/-! The functions that choose: their bodies. -/
namespace K12
open PySem PySem.Spec PyProof.Rows L2 K12L Hand RZ NdefX LamX
local macro_rules | `(tactic| walk_at "rd") => `(tactic| repeat (first | (with_reducible exact trivial) | refine ⟨_, rfl, ?_⟩ | refine ⟨_, _, rfl, rfl, ?_⟩ | refine Or.inl ⟨_, rfl, ?_⟩ | refine ⟨Or.inr ⟨by decide, by decide⟩, ?_⟩ | refine ⟨Or.inl ⟨by omega, by omega⟩, ?_⟩ | refine ⟨⟨by decide, by decide +kernel⟩, ?_⟩ | refine ⟨(show (0 : Int) < _ from by decide), ?_⟩ | refine ⟨(show (0 : Int) < _ from by omega), ?_⟩ | refine ⟨cdivW (by omega) (by omega), ?_⟩ | refine ⟨_, _, _, _, rfl, rfl, SqL.of (by first | assumption | exact upd_same), by rfl, ?_⟩ | refine ⟨_, _, _, _, rfl, rfl, (by first | assumption | exact upd_same), by rfl, ?_⟩ | refine ⟨_, _, rfl, Or.inl (SqL.of (by first | assumption | exact upd_same)), ?_⟩ | refine ⟨Or.inl ⟨rfl, _, SqL.of (by first | assumption | exact upd_same)⟩, ?_⟩ | refine ⟨_, _, _, rfl, rfl, (by first | assumption | exact upd_same), (Evl.sz_lt (by first | omega | (simp only [List.length_map]; omega))), ?_⟩ | refine ⟨rfl, ?_⟩))
def st_run : Stmt := (defBody s_l_run).getD 1 (.Pass ⟨0, 0, 0, 0⟩)
def st_rai : Stmt := (defBody s_l_raised_at).getD 1 (.Pass ⟨0, 0, 0, 0⟩)
abbrev N_run : List Str := ["_law_coin", "_law_lacks", "_law_bad", "_law_calls", "_law_odd", "_law_picks", "_law_at", "_law_able_here"]
abbrev P_ch : List Str := ["_law_coin", "_law_lacks"]
abbrev F_run : List Str := ["_law_bad", "_law_calls", "_law_odd", "_law_picks"]
abbrev N_rai : List Str := ["_law_coin", "_law_lacks", "_law_at", "_law_calls", "_law_picks", "_law_able_here"]
abbrev F_rai : List Str := ["_law_at", "_law_calls", "_law_picks"]
theorem sc_run : NScope N_run P_ch F_run (C8.fnScope st_run) := nscope_by (by decide +kernel)
theorem sc_rai : NScope N_rai P_ch F_rai (C8.fnScope st_rai) := nscope_by (by decide +kernel)
/-- what the function of run answers -/
def chRun (picks : List Int) (bad : Int) (odd : V) : List Call → Call → Option V := fun cs x => if (cs.length : Int) = bad then some odd else if cs.length < picks.length then some (.int (pick picks cs.length x.1 x.2 : Nat)) else some (.int 0)
/-- .. of raised_at -/
def chRai (picks : List Int) (at_ : Int) : List Call → Call → Option V := fun cs x => if at_ < (cs.length : Int) + 1 then none else some (.int (pick picks cs.length x.1 x.2 : Nat))
def JRun (H0 : Hp) (C : Addr) (cs : List Call) (H : Hp) : Prop := (∀ b o, b ≠ C → H0 b = some o → H b = some o) ∧ ∃ ts : List Addr, H C = some (.lst (ts.map V.ref)) ∧ CallsAt H ts cs
def JRai (H0 : Hp) (C : Addr) (cs : List Call) (H : Hp) : Prop := (∀ b o, b ≠ C → H0 b = some o → H b = some o) ∧ H C = some (.lst ((cs.map fun x => x.1).map V.int))
theorem keeps_run {K : PySem.W.Frag} {f C : Addr} {F : NF} {H0 : Hp} {xs : List V} (h1 : H0 f = some (FnO f F)) (h2 : H0 F.c = some (CodeO F.c F.qual)) (hC : H0 C = some (.lst xs)) : Keeps K f F C H0 (JRun H0 C) := by
  have nf : f ≠ C := fun z => by
    rw [z, hC] at h1
    unfold FnO at h1
    cases h1
  have nc : F.c ≠ C := fun z => by
    rw [z, hC] at h2
    unfold CodeO at h2
    cases h2
  refine ⟨fun l H j => ⟨_, j.2.choose_spec.1⟩, fun l H H' j s => ⟨fun b o n e => s _ _ (j.1 b o n e), ?_⟩, fun l H p ys zs j hp np n0 => ⟨fun b o n e => ?_, ?_⟩, fun l H j => ⟨j.1 _ _ nf h1, j.1 _ _ nc h2⟩, fun l H j => j.1⟩
  · obtain ⟨_, ts, h3, h4⟩ := j
    exact ⟨ts, s _ _ h3, h4.imp fun a xs h => s _ _ h⟩
  · rw [upd_ne (ne_of_none e n0)]
    exact j.1 b o n e
  · obtain ⟨_, ts, h3, h4⟩ := j
    refine ⟨ts, (upd_ne (Ne.symm np)).trans h3, h4.imp fun a xs h => ?_⟩
    have na : a ≠ p := fun z => by
      rw [z, hp] at h
      cases h
    exact (upd_ne na).trans h
theorem keeps_rai {K : PySem.W.Frag} {f C : Addr} {F : NF} {H0 : Hp} {xs : List V} (h1 : H0 f = some (FnO f F)) (h2 : H0 F.c = some (CodeO F.c F.qual)) (hC : H0 C = some (.lst xs)) : Keeps K f F C H0 (JRai H0 C) := by
  have nf : f ≠ C := fun z => by
    rw [z, hC] at h1
    unfold FnO at h1
    cases h1
  have nc : F.c ≠ C := fun z => by
    rw [z, hC] at h2
    unfold CodeO at h2
    cases h2
  refine ⟨fun l H j => ⟨_, j.2⟩, fun l H H' j s => ⟨fun b o n e => s _ _ (j.1 b o n e), s _ _ j.2⟩, fun l H p ys zs j hp np n0 => ⟨fun b o n e => ?_, (upd_ne (Ne.symm np)).trans j.2⟩, fun l H j => ⟨j.1 _ _ nf h1, j.1 _ _ nc h2⟩, fun l H j => j.1⟩
  rw [upd_ne (ne_of_none e n0)]
  exact j.1 b o n e
section
variable {P : Program} {w : World} {K : PySem.W.Frag} {mg : Str → Option Value} {base : Heap}
def spRunN (K : PySem.W.Frag) (H0 : Hp) (bad : Int) (C pk : Addr) (odd : V) (picks : List Int) : List (Option V) → Sp := fun ws vs H Q E => ws = [some (.int bad), some (.ref C), some odd, some (.ref pk)] ∧ pk ≠ C ∧ picks.length ≤ 80000 ∧ H0 pk = some (.lst (picks.map V.int)) ∧
  (∃ ty, tyS H0 odd = some ty) ∧ odd ≠ .ref C ∧ spCh K C (JRun H0 C) (chRun picks bad odd) vs H Q E
theorem tyS_old {H0 H : Hp} {C : Addr} {odd : V} {ty : String} (h : tyS H0 odd = some ty) (n : odd ≠ .ref C) (old : ∀ b o, b ≠ C → H0 b = some o → H b = some o) : tyS H odd = some ty := by
  cases odd with
  | ref a =>
    have na : a ≠ C := fun z => n (by rw [z])
    have h : kindO (H0 a) = some ty := h
    show kindO (H a) = some ty
    rcases kindO_cases h with ⟨xs, e, rfl⟩ | ⟨xs, e, rfl⟩ | ⟨xs, e, rfl⟩ <;> (rw [old _ _ na e]; rfl)
  | _ => exact h
theorem nok_run (T : Txt K mg) (H0 : Hp) (bad : Int) (C pk : Addr) (odd : V) (picks : List Int) (q : Str) (cl : List (Str × Addr)) (c' f : Addr) : NOk P w K mg base (L2.CX P w) 2 f (NF.of st_run "_law_chosen" q cl c') P_ch F_run (spRunN K H0 bad C pk odd picks) := by
  have h_l_able := h_l_able (P := P) (w := w) (base := base) T
  refine nok_of (N := N_run) sc_run (fun doc pm ctv us hl => match us, hl with | [_, _], _ => rfl) (fun ws vs H Q E h => ?_) fun A outer s H vs ws Q E hr hf hc hws h => ?_
  · obtain ⟨_, _, _, _, _, _, ⟨_, _, _, _, rfl, _⟩⟩ := h
    rfl
  · refine ⟨_, PSs.nox (pss_cons (ps_set (i := 6) sc_run.nd rfl (Or.inl rfl) (pe_callB call_len_seq rfl (T.free "len" (by decide)) (by decide +kernel) (pa_cons (pv 3) pa_nil)))
      (pss_cons (ps_expr (pe_bm PySem.F.plainAttrs_list PySem.F.slot_list_append PySem.F.type_list_append mt_append (pv 3) (pa_cons (pe_tup (pa_cons (pv 0) (pa_cons (pv 1) pa_nil))) pa_nil)))
      (pss_cons (ps_set (i := 7) sc_run.nd rfl (Or.inl rfl) (pe_has h_l_able hr (by decide) (pa_cons (pv 0) (pa_cons (pv 1) pa_nil))))
      (pss_cons (ps_if (pt_cmpR op_eq (pv 6) (pv 2) (nomark _)) (pss_one (ps_ret (pv 4))) pss_nil)
      (pss_one (ps_ret (pe_ifExp (PW.pt (pw_and (pt_cmpR (op_neD hr.units) (pv 7) (pe_lst pa_nil) (nomark _)) (pw_and1 (pt_cmpR op_lt (pv 6) (pe_callB call_len_seq rfl (T.free "len" (by decide)) (by decide +kernel) (pa_cons (pv 5) pa_nil)) (nomark _)))))
        (pe_ix ix_list (pv 7) (pe_op op_mod (pe_callTy call_int1 rfl (T.free "int" (by decide)) (by decide +kernel) (pa_cons (pe_ix ix_list (pv 5) (pv 6) (fun _ _ => rfl)) pa_nil)) (pe_callB call_len_seq rfl (T.free "len" (by decide)) (by decide +kernel) (pa_cons (pv 7) pa_nil))) (fun _ _ => rfl)) pe_int))))))), ?_⟩
    obtain ⟨rfl, npk, hpl, hpk, ⟨ty, hty⟩, nodd, ⟨c, t, ls, cs, rfl, ht, ⟨old, ts, hC, hcs⟩, hall, hl5, hc12, kv, kn⟩⟩ := h
    have hcl := hcs.len
    have hC' : H C = some (.lst (ts.map V.ref)) := hC
    refine ⟨_, rfl, C, _, rfl, .inl (SqL.of hC), ?_⟩
    refine ⟨_, rfl, .inl ⟨rfl, _, SqL.of hC⟩, _, rfl, _, rfl, Evl.sz_of (show (2 : Nat) ≤ _ from by decide), fun t2 nt2 => ?_⟩
    have hC2 := Same.new (o := .tup [.int c, .ref t]) nt2 _ _ hC
    refine ⟨C, _, _, rfl, rfl, hC2, Evl.sz_lt (by rw [List.length_map]; omega), ?_⟩
    have tne : ∀ {a : Addr} {xs : List V}, H a = some (.tup xs) → a ≠ C := fun {a xs} h e => by
      rw [e, hC] at h
      cases h
    have t2C : t2 ≠ C := fun e => by
      rw [e, hC] at nt2
      cases nt2
    have s1 : ∀ b o, b ≠ C → H b = some o → upd (upd H t2 (.tup [.int c, .ref t])) C (.lst (ts.map V.ref ++ [.ref t2])) b = some o := fun b o n e => (upd_ne n).trans (Same.new nt2 _ _ e)
    have hC3 : upd (upd H t2 (.tup [.int c, .ref t])) C (.lst (ts.map V.ref ++ [.ref t2])) C = some (.lst ((ts ++ [t2]).map V.ref)) := by rw [upd_same, map_snoc]
    have ht2 : upd (upd H t2 (.tup [.int c, .ref t])) C (.lst (ts.map V.ref ++ [.ref t2])) t2 = some (.tup [.int c, .ref t]) := (upd_ne t2C).trans upd_same
    generalize upd (upd H t2 (.tup [.int c, .ref t])) C (.lst (ts.map V.ref ++ [.ref t2])) = H1 at s1 hC3 ht2
    have ht1 := s1 _ _ (tne ht) ht
    refine ⟨_, rfl, _, rfl, c, t, true, ls, rfl, ht1, by omega, fun p H2 np s2 hp => ?_⟩
    have jj : JRun H0 C (cs ++ [(c, ls)]) H2 := ⟨fun b o n e => s2 _ _ (s1 b o n (old b o n e)), ts ++ [t2], s2 _ _ hC3, ((hcs.imp fun a xs h => s2 _ _ (s1 _ _ (tne h) h)).snoc (s2 _ _ ht2) (s2 _ _ ht1))⟩
    have kk : Kh C H H2 := fun b o n e => s2 _ _ (s1 b o n e)
    have elen : (((ts.map V.ref).length : Nat) : Int) = (cs.length : Int) := by rw [List.length_map, hcl]
    rw [elen]
    refine ⟨_, rfl, _, rfl, rfl, _, rfl, ?_⟩
    refine if_eqI (fun hb => ?_) fun hb => ?_
    · refine ⟨_, rfl, kv odd ty H2 ?_ jj kk (tyS_old hty nodd jj.1)⟩
      unfold chRun
      rw [if_pos hb]
    · have hab : able c ls ≠ [] := fun e => by
        rw [able_nil.mp e] at hall
        cases hall
      refine ⟨_, rfl, Evl.sz_of (show (0 : Nat) ≤ _ from by decide), fun e1 ne1 => ?_⟩
      have s3 := Same.new (o := .lst []) ne1
      refine ⟨_, _, .lst (SqL.of (s3 _ _ hp)) (dp_ints _), .lst (SqL.of upd_same) .nil, (Fl.list (k := 0) (fl_ints _)).shaped (by decide), (Fl.list (k := 0) (xs := []) (by simp)).shaped (by decide), _, rfl, ?_⟩
      rw [eqv_nil, decide_eq_false (fun z => hab (ableI_nil.mp z))]
      have hp3 := s3 _ _ hp
      have jj3 : JRun H0 C (cs ++ [(c, ls)]) (upd H2 e1 (.lst [])) := ⟨fun b o n e => s3 _ _ (jj.1 b o n e), by
        obtain ⟨_, us, h3, h4⟩ := jj
        exact ⟨us, s3 _ _ h3, h4.imp fun a xs h => s3 _ _ h⟩⟩
      have kk3 : Kh C H (upd H2 e1 (.lst [])) := fun b o n e => s3 _ _ (kk b o n e)
      generalize upd H2 e1 (.lst []) = H3 at s3 hp3 jj3 kk3
      have hpk3 := jj3.1 _ _ npk hpk
      refine ⟨_, rfl, _, rfl, pk, _, rfl, .inl (SqL.of hpk3), _, _, rfl, rfl, _, rfl, ?_⟩
      have hlen : 0 < (able c ls).length := by
        cases e : able c ls with
        | nil => exact absurd e hab
        | cons a r => exact Nat.succ_pos _
      refine if_dec (fun hlt => ?_) fun hlt => ?_
      · rw [List.length_map] at hlt
        have hlt2 : cs.length < picks.length := by omega
        refine ⟨_, rfl, _, rfl, _, rfl, pk, _, _, .int (picks.getD cs.length 0), rfl, rfl, SqL.of hpk3, atI_nat (by rw [List.getElem?_map, List.getElem?_eq_getElem hlt2, getD_lt hlt2] <;> rfl), .inl ⟨_, rfl, ?_⟩⟩
        refine ⟨_, rfl, p, _, rfl, .inl (SqL.of hp3), _, _, rfl, rfl, ?_, p, _, _, _, rfl, rfl, SqL.of hp3, ableI_at hab, ?_⟩
        · show (0 : Int) < (((ableI c ls).map V.int).length : Nat)
          unfold ableI
          rw [List.length_map, List.length_map]
          omega
        · refine kv _ "int" H3 ?_ jj3 kk3 rfl
          unfold chRun
          rw [if_neg hb, if_pos hlt2]
          rfl
      · rw [List.length_map] at hlt
        refine kv _ "int" H3 ?_ jj3 kk3 rfl
        unfold chRun
        rw [if_neg hb, if_neg (by omega)]
def spRaiN (K : PySem.W.Frag) (H0 : Hp) (at_ : Int) (C pk : Addr) (picks : List Int) : List (Option V) → Sp := fun ws vs H Q E => ws = [some (.int at_), some (.ref C), some (.ref pk)] ∧ pk ≠ C ∧ H0 pk = some (.lst (picks.map V.int)) ∧ at_ ≤ (picks.length : Int) ∧
  spCh K C (JRai H0 C) (chRai picks at_) vs H Q E
theorem nok_rai (T : Txt K mg) (R : Ers P K mg) (H0 : Hp) (at_ : Int) (C pk : Addr) (picks : List Int) (q : Str) (cl : List (Str × Addr)) (c' f : Addr) : NOk P w K mg base (L2.CX P w) 2 f (NF.of st_rai "_law_chosen" q cl c') P_ch F_rai (spRaiN K H0 at_ C pk picks) := by
  have h_l_able := h_l_able (P := P) (w := w) (base := base) T
  have gC := R.glo "BadLost" (by decide)
  have gP := R.glo "PurseError" (by decide)
  refine nok_of (N := N_rai) sc_rai (fun doc pm ctv us hl => match us, hl with | [_, _], _ => rfl) (fun ws vs H Q E h => ?_) fun A outer s H vs ws Q E hr hf hc hws h => ?_
  · obtain ⟨_, _, _, _, ⟨_, _, _, _, rfl, _⟩⟩ := h
    rfl
  · refine ⟨_, (pss_cons (ps_expr (pe_bm PySem.F.plainAttrs_list PySem.F.slot_list_append PySem.F.type_list_append mt_append (pv 3) (pa_cons (pv 0) pa_nil)))
      (pss_cons (ps_set (i := 5) sc_rai.nd rfl (Or.inl rfl) (pe_has h_l_able hr (by decide) (pa_cons (pv 0) (pa_cons (pv 1) pa_nil))))
      (pss_cons (ps_if (PW.pt (pw_or (pt_cmpR op_gt (pe_callB call_len_seq rfl (T.free "len" (by decide)) (by decide +kernel) (pa_cons (pv 3) pa_nil)) (pv 2) (nomark _)) (pw_or1 (pt_cmpR (op_eqD hr.units) (pv 5) (pe_lst pa_nil) (nomark _)))))
        (pss_one (ps_raise rfl (takes_of rfl rfl rfl rfl) (pmk_lost R.lost R.base gP gC hr rfl))) pss_nil)
      (pss_one (ps_ret (pe_ix ix_list (pv 5) (pe_op op_mod (pe_callTy call_int1 rfl (T.free "int" (by decide)) (by decide +kernel) (pa_cons (pe_ix ix_list (pv 4) (pe_op op_sub (pe_callB call_len_seq rfl (T.free "len" (by decide)) (by decide +kernel) (pa_cons (pv 3) pa_nil)) pe_int) (fun _ _ => rfl)) pa_nil))
        (pe_callB call_len_seq rfl (T.free "len" (by decide)) (by decide +kernel) (pa_cons (pv 5) pa_nil))) (fun _ _ => rfl))))))), ?_⟩
    obtain ⟨rfl, npk, hpk, hat, ⟨c, t, ls, cs, rfl, ht, ⟨old, hC⟩, hall, hl5, hc12, kv, kn⟩⟩ := h
    have hC' : H C = some (.lst ((cs.map fun x => x.1).map V.int)) := hC
    refine ⟨_, rfl, .inl ⟨rfl, _, SqL.of hC⟩, _, rfl, C, _, _, rfl, rfl, hC, Evl.sz_lt (by rw [List.length_map, List.length_map]; omega), ?_⟩
    have tne : ∀ {a : Addr} {xs : List V}, H a = some (.tup xs) → a ≠ C := fun {a xs} h e => by
      rw [e, hC'] at h
      cases h
    have s1 : ∀ b o, b ≠ C → H b = some o → upd H C (.lst ((cs.map fun x => x.1).map V.int ++ [.int c])) b = some o := fun b o n e => (upd_ne n).trans e
    have hC3 : upd H C (.lst ((cs.map fun x => x.1).map V.int ++ [.int c])) C = some (.lst (((cs ++ [(c, ls)]).map fun x => x.1).map V.int)) := by
      rw [upd_same]
      simp
    generalize upd H C (.lst ((cs.map fun x => x.1).map V.int ++ [.int c])) = H1 at s1 hC3
    have ht1 := s1 _ _ (tne ht) ht
    refine ⟨_, rfl, _, rfl, c, t, true, ls, rfl, ht1, by omega, fun p H2 np s2 hp => ?_⟩
    have jj : JRai H0 C (cs ++ [(c, ls)]) H2 := ⟨fun b o n e => s2 _ _ (s1 b o n (old b o n e)), s2 _ _ hC3⟩
    have kk : Kh C H H2 := fun b o n e => s2 _ _ (s1 b o n e)
    have elen : (((((cs ++ [(c, ls)]).map fun x => x.1).map V.int).length : Nat) : Int) = (cs.length : Int) + 1 := by
      simp
    have hC4 := jj.2
    refine ⟨_, rfl, C, _, rfl, .inl (SqL.of hC4), _, rfl, _, _, rfl, rfl, _, rfl, ?_⟩
    rw [elen]
    have hab : able c ls ≠ [] := fun e => by
      rw [able_nil.mp e] at hall
      cases hall
    by_cases hb : at_ < (cs.length : Int) + 1
    · rw [decide_eq_true hb]
      refine kn H2 ?_ jj kk
      unfold chRai
      rw [if_pos hb]
    · rw [decide_eq_false hb]
      refine ⟨_, rfl, Evl.sz_of (show (0 : Nat) ≤ _ from by decide), fun e1 ne1 => ?_⟩
      have s3 := Same.new (o := .lst []) ne1
      refine ⟨_, _, .lst (SqL.of (s3 _ _ hp)) (dp_ints _), .lst (SqL.of upd_same) .nil, (Fl.list (k := 0) (fl_ints _)).shaped (by decide), (Fl.list (k := 0) (xs := []) (by simp)).shaped (by decide), _, rfl, ?_⟩
      rw [eqv_nil, decide_eq_false (fun z => hab (ableI_nil.mp z))]
      have hp3 := s3 _ _ hp
      have jj3 : JRai H0 C (cs ++ [(c, ls)]) (upd H2 e1 (.lst [])) := ⟨fun b o n e => s3 _ _ (jj.1 b o n e), s3 _ _ jj.2⟩
      have kk3 : Kh C H (upd H2 e1 (.lst [])) := fun b o n e => s3 _ _ (kk b o n e)
      generalize upd H2 e1 (.lst []) = H3 at s3 hp3 jj3 kk3
      have hpk3 := jj3.1 _ _ npk hpk
      have hlt2 : cs.length < picks.length := by omega
      have hlen : 0 < (able c ls).length := by
        cases e : able c ls with
        | nil => exact absurd e hab
        | cons a r => exact Nat.succ_pos _
      have eix : (((((cs ++ [(c, ls)]).map fun x => x.1).map V.int).length : Nat) : Int) - 1 = (cs.length : Int) := by omega
      refine ⟨_, rfl, _, rfl, _, rfl, C, _, rfl, .inl (SqL.of jj3.2), _, _, rfl, rfl, pk, _, _, .int (picks.getD cs.length 0), rfl, rfl, SqL.of hpk3, ?_, .inl ⟨_, rfl, ?_⟩⟩
      · rw [eix]
        exact atI_nat (by rw [List.getElem?_map, List.getElem?_eq_getElem hlt2, getD_lt hlt2] <;> rfl)
      refine ⟨_, rfl, p, _, rfl, .inl (SqL.of hp3), _, _, rfl, rfl, ?_, p, _, _, _, rfl, rfl, SqL.of hp3, ableI_at hab, ?_⟩
      · show (0 : Int) < (((ableI c ls).map V.int).length : Nat)
        unfold ableI
        rw [List.length_map, List.length_map]
        omega
      · refine kv _ "int" H3 ?_ jj3 kk3 rfl
        unfold chRai
        rw [if_neg hb]
        rfl
/-- what the captured cells held they hold still -/
theorem cells_later {cl : List (Str × Addr)} {fr : List Str} {ws : List (Option V)} {h0 h : Heap} {H0 H : Hp} {fs : List Addr} (C : CellsAt cl fr ws h0 H0) (un : Un fs [] H0 H h0 h) : CellsAt cl fr ws h H := by
  have kp : ∀ c v, H0 c = none → h0.IsCell c v → h.IsCell c v := fun c v n ⟨o, ho, hd⟩ => by
    obtain ⟨sl, q⟩ := un.any ho n (by simp)
    exact ⟨_, q, hd⟩
  refine ⟨C.len, fun y c e => ?_, C.inj, fun i y e => ?_⟩
  · obtain ⟨n, v, z⟩ := C.all y c e
    refine ⟨?_, v, kp c v n z⟩
    obtain ⟨o, ho, _⟩ := z
    exact un.free c o ho n (by simp)
  · obtain ⟨c, hc, hv⟩ := C.has i y e
    refine ⟨c, hc, fun v ev => ?_⟩
    obtain ⟨u, r, z⟩ := hv v ev
    exact ⟨u, r, kp c _ (C.all y c hc).1 z⟩
/-- what hand_out is, by its name -/
abbrev HandIs (P : Program) (w : World) (K : PySem.W.Frag) (mg : Str → Option Value) (base : Heap) : Prop := ∃ f fd, mg "hand_out" = some (.ref f) ∧ PySem.W.keepIn K (.ref f) = true ∧ Binds K fd P_hand_out [] ∧
    ∀ (A : Around) (outer : List Env) (s : Shared) (H : Hp) (us : List Value) (vs : List V) (Q : VK) (E : XK) (k : Nat) (g : Addr) (G : NdefX.NF) (ac : Addr) (J : List Call → Hp → Prop) (ch : List Call → Call → Option V), Room (k + 7) A → Env0 P w K mg base A outer s H → BindsTo s fd ⟨us, []⟩ (P_hand_out.zip us) → Vals vs us →
      ChOk P w K mg base (k + 6) g G (spCh K ac J ch) s H (frs outer) → HandPre K g G ac J ch vs H Q E → codeAny (model P w) A (.call (.ref f) ⟨us, []⟩) (CR (L2.CX P w) outer P w H s Q E) s
def tHand (P : Program) (w : World) (K : PySem.W.Frag) (mg : Str → Option Value) (base : Heap) (mk : Addr → NF) (fr : List Str) (js : List Nat) (W : WX) (t : TA) : TE := fun σ H Q => t σ H fun vs H1 => ∃ (g c' : Addr) (ac : Addr) (J : List Call → Hp → Prop) (ch : List Call → Call → Option V) (spN : List (Option V) → Sp), NOk P w K mg base (L2.CX P w) 2 g (mk c') P_ch fr spN ∧
      (∀ vs H Q E, spCh K ac J ch vs H Q E → spN (js.map (slotAt σ)) vs H Q E) ∧ HandPre K g (mk c') ac J ch vs H1 Q (WE W σ)
/-- hand_out(pool, wish, f), f made in the running def -/
theorem pe_hand {X : Cx} {W : WX} {j : Nat} {e1 : Expr} {es : List Expr} {t : TA} {p pos : Pos} {fr : List Str} {js : List Nat} {cl : List (Str × Addr)} {mk : Addr → NF} (HI : HandIs X.prog X.w X.K X.mg X.base) (hcl : ∀ c', (mk c').cl = cl) (cp : X.Ok → Caps X cl fr js) (hr : Room j X.A) (hj : 7 ≤ j) (tk : Takes X W) (ha : PA X (e1 :: es) t)
    (hg : Gl X "hand_out" := by rfl) (he : starEach (e1 :: es) X.env = (false, eval e1 X.env) :: starEach es X.env := by rfl) (hpl : (backTo pos (starEach es X.env)).any (·.1) = false := by rfl) :
    PE X (.Call (.Name "hand_out" p) (e1 :: es) [] pos) (tHand X.prog X.w X.K X.mg X.base mk fr js W t) := by
  refine ⟨fun pins s σ H Q I h => ?_⟩
  obtain ⟨f, fd, gH, kp, hb, run⟩ := HI
  refine wpAny_Call_Name_kw (ld_glob I hg gH ?_ (by decide))
  refine PySem.W.callWith_K (h₀ := X.base) I.ok.mod.kin kp (thn (ha.run pos pins s σ H _ I h) fun us s1 hh => ?_) he hpl
  obtain ⟨vs, H1, I1, r, g, c', ac, J, ch, spN, nok, imp, pre⟩ := hh
  refine ⟨I1.kIn, ?_⟩
  have C1 : CellsAt (mk c').cl fr (js.map (slotAt σ)) s1.heap H1 := by
    rw [hcl c']
    exact cells_of I1 (cp I1.ok)
  have Ch : ChOk X.prog X.w X.K X.mg X.base (0 + 6) g (mk c') (spCh X.K ac J ch) s1 H1 (frs X.stack) := ⟨fun A outer s H us vs Q E hr e0 h1 h2 un rv q => (nok.mono (by decide)).run A outer s H us vs _ Q E hr e0 h1 h2 (cells_later C1 un) rv (imp _ _ _ _ q)⟩
  have hl : vs.length = 3 := by
    obtain ⟨x, y, ns, coins, W', rfl, _⟩ := pre
    rfl
  have hb2 := hb s1 us I1.kIn (by rw [List.append_nil, ← r.length, hl]; rfl)
  rw [List.append_nil] at hb2
  show wpAny _ _ (call (.ref f) us) _ _ _
  refine wpAny_call (codeAny_mono (run X.A X.stack s1 H1 us vs Q (WE W σ) 0 g (mk c') ac J ch (hr.mono hj) I1.env0 hb2 r Ch pre) fun r s' hq => ?_)
  cases r with
  | error e => exact passAt tk σ pins H1 s1 e s' I1 hq
  | ok fl =>
    cases fl with
    | ret u => exact I1.after hq
    | next => exact False.elim hq
    | brk => exact False.elim hq
    | cont => exact False.elim hq
end
end K12

set_option Elab.async false
set_option linter.all false
set_option maxRecDepth 100000
set_option maxHeartbeats 8000000
/-! The program asked: run, raised_at, door. -/
namespace K12
open PySem PySem.Spec PyProof.Rows L2 K12L Hand RZ NdefX LamX
local macro_rules | `(tactic| walk_at "rd") => `(tactic| repeat (first | (with_reducible exact trivial) | refine ⟨_, rfl, ?_⟩ | refine ⟨_, _, rfl, rfl, ?_⟩ | refine Or.inl ⟨_, rfl, ?_⟩ | refine ⟨Or.inr ⟨by decide, by decide⟩, ?_⟩ | refine ⟨Or.inl ⟨by omega, by omega⟩, ?_⟩ | refine ⟨⟨by decide, by decide +kernel⟩, ?_⟩ | refine ⟨(show (0 : Int) < _ from by decide), ?_⟩ | refine ⟨(show (0 : Int) < _ from by omega), ?_⟩ | refine ⟨cdivW (by omega) (by omega), ?_⟩ | refine ⟨_, _, _, _, rfl, rfl, SqL.of (by first | assumption | exact upd_same), by rfl, ?_⟩ | refine ⟨_, _, _, _, rfl, rfl, (by first | assumption | exact upd_same), by rfl, ?_⟩ | refine ⟨_, _, rfl, Or.inl (SqL.of (by first | assumption | exact upd_same)), ?_⟩ | refine ⟨Or.inl ⟨rfl, _, SqL.of (by first | assumption | exact upd_same)⟩, ?_⟩ | refine ⟨_, _, _, rfl, rfl, (by first | assumption | exact upd_same), (Evl.sz_lt (by first | omega | (simp only [List.length_map]; omega))), ?_⟩ | refine ⟨rfl, ?_⟩))
def qRun : Str := (envOfC "_law_run" (defScope s_l_run) 0 0 .none).qual ++ "_law_chosen"
def qRai : Str := (envOfC "_law_raised_at" (defScope s_l_raised_at) 0 0 .none).qual ++ "_law_chosen"
def qDoor : Str := (envOfC "_law_door" (defScope s_l_door) 0 0 .none).qual ++ "<lambda>"
structure Tbl (K : PySem.W.Frag) (mg : Str → Option Value) (base : Heap) (Pr Pa Pd : Addr) : Prop where
  gr : mg "_law_run" = some (.ref (He.ga K "_law_run"))
  ga : mg "_law_raised_at" = some (.ref (He.ga K "_law_raised_at"))
  gd : mg "_law_door" = some (.ref (He.ga K "_law_door"))
  r : TabB base mg (He.codeOf K ("_law_run", none)) Pr
  a : TabB base mg (He.codeOf K ("_law_raised_at", none)) Pa
  d : TabB base mg (He.codeOf K ("_law_door", none)) Pd
  ra : Pr ≠ Pa
  rd : Pr ≠ Pd
  ad : Pa ≠ Pd
def TT (Pr Pa Pd : Addr) : List NTab := [(Pr, fun _ _ => qRun), (Pa, fun _ _ => qRai), (Pd, fun _ _ => qDoor)]
theorem tt_uniq {Pr Pa Pd : Addr} (h1 : Pr ≠ Pa) (h2 : Pr ≠ Pd) (h3 : Pa ≠ Pd) : (∀ p ∈ TT Pr Pa Pd, p.1 = Pr → p.2 = fun _ _ => qRun) ∧ (∀ p ∈ TT Pr Pa Pd, p.1 = Pa → p.2 = fun _ _ => qRai) ∧ (∀ p ∈ TT Pr Pa Pd, p.1 = Pd → p.2 = fun _ _ => qDoor) := by
  refine ⟨fun p hp e => ?_, fun p hp e => ?_, fun p hp e => ?_⟩ <;> (unfold TT at hp; simp only [List.mem_cons, List.not_mem_nil, or_false] at hp; rcases hp with z | z | z <;> subst z)
  · rfl
  · exact absurd e.symm h1
  · exact absurd e.symm h2
  · exact absurd e h1
  · rfl
  · exact absurd e.symm h3
  · exact absurd e h2
  · exact absurd e h3
  · rfl
theorem tabN_old {H H' : Hp} {C P : Addr} {nm : Nat → Nat → Str} {xs : List V} (t : TabN H P nm) (hC : H C = some (.lst xs)) (old : ∀ b o, b ≠ C → H b = some o → H' b = some o) : TabN H' P nm := by
  obtain ⟨ps, h1, h2, h3⟩ := t
  refine ⟨ps, old _ _ (fun z => ?_) h1, h2, fun pos cv hc => ?_⟩
  · rw [z, hC] at h1
    cases h1
  · obtain ⟨c, e1, e2⟩ := h3 pos cv hc
    refine ⟨c, e1, old _ _ (fun z => ?_) e2⟩
    rw [z, hC] at e2
    unfold CodeO at e2
    cases e2
theorem tabs_old {T : List NTab} {H H' : Hp} {C : Addr} {xs : List V} (t : TabsN T H) (hC : H C = some (.lst xs)) (old : ∀ b o, b ≠ C → H b = some o → H' b = some o) : TabsN T H' := fun p hp => tabN_old (t p hp) hC old
theorem SqH.ext {b : Bool} {H H' : Hp} {a : Addr} {xs : List V} (h : SqH b H a xs) (e : ExtN H H') : SqH b H' a xs := e _ _ h fun ps z => by cases b <;> cases z
theorem PoolOk.ext {H H' : Hp} {x : V} {ns : List Int} (h : PoolOk H x ns) (e : ExtN H H') : PoolOk H' x ns := by
  obtain ⟨a, b, e1, h1, r⟩ := h
  exact ⟨a, b, e1, h1.ext e, r⟩
theorem AmtOk.ext {H H' : Hp} {x : V} {ns : List Int} (h : AmtOk H x ns) (e : ExtN H H') : AmtOk H' x ns := by
  obtain ⟨a, b, e1, h1, r⟩ := h
  exact ⟨a, b, e1, h1.ext e, r⟩
theorem tyS_ext {H H' : Hp} {x : V} {t : String} (h : tyS H x = some t) (e : ExtN H H') : tyS H' x = some t := by
  cases x with
  | ref a =>
    have h : kindO (H a) = some t := h
    show kindO (H' a) = some t
    rcases kindO_cases h with ⟨xs, e1, rfl⟩ | ⟨xs, e1, rfl⟩ | ⟨xs, e1, rfl⟩ <;> (rw [e _ _ e1 (fun ps z => by cases z)]; rfl)
  | _ => exact h
section
variable {P : Program} {w : World} {K : PySem.W.Frag} {mg : Str → Option Value} {base : Heap} {Pr Pa Pd : Addr}
def spRun (Pr Pa Pd : Addr) : Sp := fun vs H Q _ => ∃ (x y : V) (pk : Addr) (bad : Int) (odd : V) (ns coins W picks : List Int) (r : HEnd × List Call) (ty : String), vs = [x, y, .ref pk, .int bad, odd] ∧ PoolOk H x ns ∧ coins.Perm ns ∧ coins.Pairwise (· ≤ ·) ∧ AmtOk H y W ∧ W.sum = ns.sum ∧
  H pk = some (.lst (picks.map V.int)) ∧ picks.length ≤ 80000 ∧ tyS H odd = some ty ∧ play (ansOf (chRun picks bad odd)) coins W = r ∧ r.1 ≠ .lost ∧ TabsN (TT Pr Pa Pd) H ∧
  ∀ (p : Addr) (xx : V) (ca : Addr) (ts : List Addr) (H' : Hp), H p = none → ExtN H H' → TabsN (TT Pr Pa Pd) H' → DueAt H' p xx ca ts r → Q (.ref p) H'
def rLenQ (K : PySem.W.Frag) : List V → Hp → VK → Prop := fun xs H Q => ∃ p ys, xs = [.ref p] ∧ (SqL K H p ys ∨ SqT K H p ys) ∧ Q (.int ys.length) H
theorem h_l_run (T : Txt K mg) (R : Ers P K mg) (C : Cts K mg) (Tb : Tbl K mg base Pr Pa Pd) (noTup : PySem.W.kitOne K (.type "tuple") (.ref (cC K "Stuck")) = some false) : Has P w K mg base CX0 9 "_law_run" P_l_run (spRun Pr Pa Pd) := by
  obtain ⟨f, fd, g, F⟩ := T.dfn ("_law_run", 53) (by decide +kernel)
  have HI : HandIs P w K mg base := hand_run T R C
  have gB := R.glo "BadChoice" (by decide)
  have hb := F.bindsN (ps := P_l_run) (fun _ _ _ _ _ _ us hl => match us, hl with | [_, _, _, _, _], _ => rfl)
  have ef : f = He.ga K "_law_run" := by
    have z := g.symm.trans Tb.gr
    injection z with z
    injection z
  subst ef
  have hkp := F.kp
  obtain ⟨oc, od, dV, kV, doc, pm, an, cdv, ct, osl, rfl, lk, hcd, _, _⟩ := F.ex
  obtain ⟨c, rfl⟩ := He.codeIn_ref hcd
  have ec : He.codeOf K ("_law_run", none) = c := He.codeOf_eq (p := ("_law_run", none)) (show K.lookup (He.fAd K ("_law_run", none)) = _ from lk) rfl
  have TB : TabB base mg c Pr := by
    rw [← ec]
    exact Tb.r
  refine ⟨_, _, g, hkp, hb, fn_of lk hcd sc_l_run (fun vs H Q E h => ?_) fun A outer s H vs Q E hr h => ?_⟩
  · obtain ⟨_, _, _, _, _, _, _, _, _, _, _, rfl, _⟩ := h
    rfl
  · refine ⟨_, PSs.nox (pss_cons (ps_set (i := 8) sc_l_run.nd rfl (Or.inr rfl) (pe_lst pa_nil))
      (pss_cons (ps_ndefMS (i := 5) (st := st_run) (T := TT Pr Pa Pd) (nm := fun _ _ => qRun) (name := "_law_chosen") (by rfl) TB rfl (by simp [TT]) rfl (tt_uniq Tb.ra Tb.rd Tb.ad).1 (ndef_free (sc := defScope s_l_run) (fr := F_run) (by decide +kernel)) rfl rfl rfl sc_l_run.nd rfl (Or.inl rfl) (Or.inr rfl))
      (pss_cons (ps_try_as (i := 7) (Wout := fun _ _ _ _ => False) (tb := fun W => tAsg (tHand P w K mg base (NF.of st_run "_law_chosen" qRun (cloFrom (envOfC "_law_run" (defScope s_l_run) s.heap.objs.size (He.ga K "_law_run") (.ref c)).cells (C8.fnScope st_run).names [])) F_run [3, 8, 4, 2] W (tCons (tVar 0) (tCons (tVar 1) (tCons (tVar 5) tNil)))) (gName 6)) rfl rfl sc_l_run.nd rfl rfl ⟨rfl, by decide, .inl gB⟩ L2.takes0
        (fun W pn xe tk _ => pss_one (ps_set (i := 6) sc_l_run.nd rfl (Or.inl rfl) (by exact (pe_hand (fr := F_run) (js := [3, 8, 4, 2]) (cl := cloFrom (envOfC "_law_run" (defScope s_l_run) s.heap.objs.size (He.ga K "_law_run") (.ref c)).cells (C8.fnScope st_run).names []) (mk := NF.of st_run "_law_chosen" qRun (cloFrom (envOfC "_law_run" (defScope s_l_run) s.heap.objs.size (He.ga K "_law_run") (.ref c)).cells (C8.fnScope st_run).names [])) HI (fun _ => rfl)
          (fun ok => Caps.made (scope := C8.fnScope st_run) ok (ndef_free (sc := defScope s_l_run) (fr := F_run) (by decide +kernel)) (ndef_fr (sc := defScope s_l_run) (fr := F_run) (by decide +kernel)) rfl) hr (by decide) tk (pa_cons (pv 0) (pa_cons (pv 1) (pa_cons (pv 5) pa_nil)))))))
        (fun a oe cls d pn hz hf => pss_one (ps_ret (pe_lst (pa_cons pe_str (pa_cons (pe_xf R.xChoice R.noPlace hz hf (pv 7)) (pa_cons (pv 8) pa_nil)))))))
      (pss_cons (ps_if (pt_val (pe_callB call_isi rfl (T.free "isinstance" (by decide)) (by decide +kernel) (pa_cons (pv 6) (pa_cons (pe_glob (v := .ref (cC K "Stuck")) rfl C.stuck.glo rfl) pa_nil))))
        (pss_one (ps_ret (pe_lst (pa_cons pe_str (pa_cons (pe_tup (pa_cons (pe_fld (pv 6) rfl) (pa_cons (pe_fld (pv 6) rfl) pa_nil))) (pa_cons (pv 8) pa_nil))))))
        pss_nil)
      (pss_one (ps_ret (pe_lst (pa_cons pe_str (pa_cons (pv 6) (pa_cons (pv 8) pa_nil)))))))))), ?_⟩
    obtain ⟨x, y, pk, bad, odd, ns, coins, W, picks, r, ty, rfl, hp, perm, asc, ha, hsum, hpk, hpl, hty, hr1, hnl, hT, k⟩ := h
    refine ⟨Evl.sz_of (show (0 : Nat) ≤ _ from by decide), fun Cc nC => ?_⟩
    have sC : Same H (upd H Cc (.lst [])) := Same.new nC
    refine ⟨hT.ext sC, fun fc c' H1 e1 n1 T1 f0 f1 c1 => ?_⟩
    have e01 : ExtN H H1 := (ExtN.of sC).trans e1
    have hC1 : H1 Cc = some (.lst []) := e1 _ _ upd_same (fun ps z => by cases z)
    have hpk1 := e01 _ _ hpk (fun ps z => by cases z)
    have npk : pk ≠ Cc := fun z => by
      rw [z, nC] at hpk
      cases hpk
    have nodd : odd ≠ .ref Cc := fun z => by
      subst z
      have h : kindO (H Cc) = some ty := hty
      rw [nC] at h
      cases h
    have kp : Keeps K fc _ Cc H1 (JRun H1 Cc) := keeps_run f1 c1 hC1
    -- what any end leaves
    have fin : ∀ {cs : List Call} {H' : Hp}, JRun H1 Cc cs H' → ∃ ts : List Addr, H' Cc = some (.lst (ts.map V.ref)) ∧ CallsAt H' ts cs ∧ ExtN H H' ∧ TabsN (TT Pr Pa Pd) H' ∧ (∀ p, H' p = none → H p = none) := fun {cs H'} j => by
      obtain ⟨old, ts, h1, h2⟩ := j
      refine ⟨ts, h1, h2, fun b o e n => ?_, tabs_old T1 hC1 old, fun p hp' => ?_⟩
      · exact old b o (fun z => by rw [z, nC] at e; cases e) (e01 b o e n)
      · have z1 : H1 p = none := by
          cases e : H1 p with
          | none => rfl
          | some o =>
            by_cases ep : p = Cc
            · rw [ep, h1] at hp'
              cases hp'
            · rw [old p o ep e] at hp'
              cases hp'
        have z2 := n1 p z1
        exact sC.free z2
    refine ⟨_, rfl, _, rfl, _, rfl, fc, c', Cc, JRun H1 Cc, chRun picks bad odd, spRunN K H1 bad Cc pk odd picks, nok_run T H1 bad Cc pk odd picks _ _ c' fc, fun vs H Q E h => ⟨rfl, npk, hpl, hpk1, ⟨ty, tyS_ext hty e01⟩, nodd, h⟩,
      x, y, ns, coins, W, rfl, hp.ext e01, perm, asc, ha.ext e01, hsum, ⟨fun b o _ e => e, [], hC1, .nil⟩, kp, ?_⟩
    rw [hr1]
    obtain ⟨en, cs⟩ := r
    cases en with
    | lost => exact absurd rfl hnl
    | bad t =>
      intro d H' j hd
      refine ⟨true, R.exm _ (by decide) _ (by decide), fun _ a0 _ => ?_, fun z => nomatch z⟩
      obtain ⟨ts, h1, h2, h3, h4, h5⟩ := fin j
      refine ⟨_, rfl, rfl, rfl, d, _, .int (t : Int), rfl, hd, rfl, _, rfl, Evl.sz_of (show (3 : Nat) ≤ _ from by decide), fun p np => ?_⟩
      have s2 : Same H' (upd H' p (.lst [.str "bad", .int (t : Int), .ref Cc])) := Same.new np
      exact k p (.int (t : Int)) Cc ts _ (h5 p np) (h3.trans (ExtN.of s2)) (h4.ext s2) ⟨upd_same, s2 _ _ h1, h2.imp fun a xs h => s2 _ _ h, rfl⟩
    | split ps =>
      intro p qs H' j hp2 hl2 hq2
      obtain ⟨ts, h1, h2, h3, h4, h5⟩ := fin j
      refine ⟨_, rfl, _, _, _, _, false, rfl, .own _, .base (.tup hp2), noTup, _, rfl, ?_⟩
      refine ⟨_, rfl, _, rfl, Evl.sz_of (show (3 : Nat) ≤ _ from by decide), fun p3 np => ?_⟩
      have s2 : Same H' (upd H' p3 (.lst [.str "split", .ref p, .ref Cc])) := Same.new np
      exact k p3 (.ref p) Cc ts _ (h5 p3 np) (h3.trans (ExtN.of s2)) (h4.ext s2) ⟨upd_same, s2 _ _ h1, h2.imp fun a xs h => s2 _ _ h, p, qs, rfl, s2 _ _ hp2, (tupsAt_of hl2 hq2).imp fun a xs h => s2 _ _ h⟩
    | stuck c2 ls =>
      intro xx dx t H' j hx ht
      obtain ⟨ts, h1, h2, h3, h4, h5⟩ := fin j
      refine ⟨_, rfl, _, _, _, _, true, rfl, .own _, .base (.ins hx C.ins.cl C.ins.ha C.ins.hn C.ins.htk C.ins.hm), C.ins.me, _, rfl, ?_⟩
      refine ⟨_, rfl, xx, _, dx, _, _, rfl, hx, C.stuck.cl, C.stuck.n1, rfl, _, rfl, xx, _, dx, _, _, rfl, hx, C.stuck.cl, C.stuck.n2, rfl, Evl.sz_of (show (2 : Nat) ≤ _ from by decide), fun p2 np2 => ⟨_, rfl, Evl.sz_of (show (3 : Nat) ≤ _ from by decide), fun p3 np => ?_⟩⟩
      have s2 : Same H' (upd H' p2 (.tup [.int c2, .ref t])) := Same.new np2
      have s3 := s2.trans (Same.new (o := .lst [.str "stuck", .ref p2, .ref Cc]) np)
      refine k p3 (.ref p2) Cc ts _ (h5 p3 (s2.free np)) (h3.trans (ExtN.of s3)) (h4.ext s3) ⟨upd_same, s3 _ _ h1, h2.imp fun a xs h => s3 _ _ h, p2, t, rfl, Same.new np _ _ upd_same, s3 _ _ ht⟩
def spRai (Pr Pa Pd : Addr) : Sp := fun vs H Q _ => ∃ (x y : V) (pk : Addr) (at_ : Int) (ns coins W picks : List Int) (cs : List Call), vs = [x, y, .ref pk, .int at_] ∧ PoolOk H x ns ∧ coins.Perm ns ∧ coins.Pairwise (· ≤ ·) ∧ AmtOk H y W ∧ W.sum = ns.sum ∧
  H pk = some (.lst (picks.map V.int)) ∧ at_ ≤ (picks.length : Int) ∧ play (ansOf (chRai picks at_)) coins W = (.lost, cs) ∧ TabsN (TT Pr Pa Pd) H ∧
  ∀ H' : Hp, ExtN H H' → TabsN (TT Pr Pa Pd) H' → Q (.int (cs.length : Int)) H'
theorem h_l_raised_at (T : Txt K mg) (R : Ers P K mg) (C : Cts K mg) (Tb : Tbl K mg base Pr Pa Pd) : Has P w K mg base CX0 9 "_law_raised_at" P_l_raised_at (spRai Pr Pa Pd) := by
  obtain ⟨f, fd, g, F⟩ := T.dfn ("_law_raised_at", 55) (by decide +kernel)
  have HI : HandIs P w K mg base := hand_run T R C
  have gB := R.glo "BadChoice" (by decide)
  have gL := R.glo "BadLost" (by decide)
  have hb := F.bindsN (ps := P_l_raised_at) (fun _ _ _ _ _ _ us hl => match us, hl with | [_, _, _, _], _ => rfl)
  have ef : f = He.ga K "_law_raised_at" := by
    have z := g.symm.trans Tb.ga
    injection z with z
    injection z
  subst ef
  have hkp := F.kp
  obtain ⟨oc, od, dV, kV, doc, pm, an, cdv, ct, osl, rfl, lk, hcd, _, _⟩ := F.ex
  obtain ⟨c, rfl⟩ := He.codeIn_ref hcd
  have ec : He.codeOf K ("_law_raised_at", none) = c := He.codeOf_eq (p := ("_law_raised_at", none)) (show K.lookup (He.fAd K ("_law_raised_at", none)) = _ from lk) rfl
  have TB : TabB base mg c Pa := by
    rw [← ec]
    exact Tb.a
  refine ⟨_, _, g, hkp, hb, fn_of lk hcd sc_l_raised_at (fun vs H Q E h => ?_) fun A outer s H vs Q E hr h => ?_⟩
  · obtain ⟨_, _, _, _, _, _, _, _, _, rfl, _⟩ := h
    rfl
  · refine ⟨_, PSs.nox (pss_cons (ps_set (i := 5) sc_l_raised_at.nd rfl (Or.inr rfl) (pe_lst pa_nil))
      (pss_cons (ps_ndefMS (i := 4) (st := st_rai) (T := TT Pr Pa Pd) (nm := fun _ _ => qRai) (name := "_law_chosen") (by rfl) TB rfl (by simp [TT]) rfl (tt_uniq Tb.ra Tb.rd Tb.ad).2.1 (ndef_free (sc := defScope s_l_raised_at) (fr := F_rai) (by decide +kernel)) rfl rfl rfl sc_l_raised_at.nd rfl (Or.inl rfl) (Or.inr rfl))
      (pss_cons (K12M.ps_try_mix (Wout := fun _ _ _ _ => False) (tb := fun W => tDrop (tHand P w K mg base (NF.of st_rai "_law_chosen" qRai (cloFrom (envOfC "_law_raised_at" (defScope s_l_raised_at) s.heap.objs.size (He.ga K "_law_raised_at") (.ref c)).cells (C8.fnScope st_rai).names [])) F_rai [3, 5, 2] W (tCons (tVar 0) (tCons (tVar 1) (tCons (tVar 4) tNil))))) rfl rfl sc_l_raised_at.nd L2.takes0
        (.plain ⟨rfl, by decide, .inl gL⟩ (ts := fun _ _ _ => tRet (tCB (rLenQ K) (tCons (tVar 5) tNil))) (fun a oe cls d pn hz hf => pss_one (ps_ret (by exact (pe_callB call_len_seq rfl (T.free "len" (by decide)) (by decide +kernel) (pa_cons (pv 5) pa_nil)))))
          (.plain ⟨rfl, by decide, .inl gB⟩ (fun a oe cls d pn hz hf => pss_one (ps_ret (pe_un un_neg pe_int))) .done))
        (fun W pn xe tk _ => pss_one (ps_expr (by exact (pe_hand (fr := F_rai) (js := [3, 5, 2]) (cl := cloFrom (envOfC "_law_raised_at" (defScope s_l_raised_at) s.heap.objs.size (He.ga K "_law_raised_at") (.ref c)).cells (C8.fnScope st_rai).names []) (mk := NF.of st_rai "_law_chosen" qRai (cloFrom (envOfC "_law_raised_at" (defScope s_l_raised_at) s.heap.objs.size (He.ga K "_law_raised_at") (.ref c)).cells (C8.fnScope st_rai).names [])) HI (fun _ => rfl)
          (fun ok => Caps.made (scope := C8.fnScope st_rai) ok (ndef_free (sc := defScope s_l_raised_at) (fr := F_rai) (by decide +kernel)) (ndef_fr (sc := defScope s_l_raised_at) (fr := F_rai) (by decide +kernel)) rfl) hr (by decide) tk (pa_cons (pv 0) (pa_cons (pv 1) (pa_cons (pv 4) pa_nil))))))))
      (pss_one (ps_ret (pe_un un_neg pe_int)))))), ?_⟩
    obtain ⟨x, y, pk, at_, ns, coins, W, picks, cs, rfl, hp, perm, asc, ha, hsum, hpk, hat, hr1, hT, k⟩ := h
    refine ⟨Evl.sz_of (show (0 : Nat) ≤ _ from by decide), fun Cc nC => ?_⟩
    have sC : Same H (upd H Cc (.lst [])) := Same.new nC
    refine ⟨hT.ext sC, fun fc c' H1 e1 n1 T1 f0 f1 c1 => ?_⟩
    have e01 : ExtN H H1 := (ExtN.of sC).trans e1
    have hC1 : H1 Cc = some (.lst []) := e1 _ _ upd_same (fun ps z => by cases z)
    have hpk1 := e01 _ _ hpk (fun ps z => by cases z)
    have npk : pk ≠ Cc := fun z => by
      rw [z, nC] at hpk
      cases hpk
    have kp : Keeps K fc _ Cc H1 (JRai H1 Cc) := keeps_rai f1 c1 hC1
    refine ⟨_, rfl, _, rfl, _, rfl, fc, c', Cc, JRai H1 Cc, chRai picks at_, spRaiN K H1 at_ Cc pk picks, nok_rai T R H1 at_ Cc pk picks _ _ c' fc, fun vs H Q E h => ⟨rfl, npk, hpk1, hat, h⟩,
      x, y, ns, coins, W, rfl, hp.ext e01, perm, asc, ha.ext e01, hsum, ⟨fun b o _ e => e, hC1⟩, kp, ?_⟩
    rw [hr1]
    intro H' j
    refine ⟨true, R.exm _ (by decide) _ (by decide), fun _ a0 _ => ?_, fun z => nomatch z⟩
    obtain ⟨old, h1⟩ := j
    refine ⟨_, rfl, Cc, _, rfl, .inl (SqL.of h1), ?_⟩
    rw [List.length_map, List.length_map]
    refine k H' (fun b o e n => ?_) (tabs_old T1 hC1 old)
    exact old b o (fun z => by rw [z, nC] at e; cases e) (e01 b o e n)
/-! ### hand_out, refused at once -/
def spHandE (K : PySem.W.Frag) : Sp := fun vs H Q E => ∃ x y z : V, vs = [x, y, z] ∧ ((∃ pl what, PoolBad H x pl what ∧ Raised E K H "BadPool" what pl) ∨ (∃ (ns : List Int) (pl : Int) (what : Str), PoolOk H x ns ∧ WishBad H ns.sum y pl what ∧ Raised E K H "BadWish" what pl))
theorem h_handE (T : Txt K mg) (R : Ers P K mg) : Has P w K mg base (L2.CX P w) 6 "hand_out" P_hand_out (spHandE K) := by
  obtain ⟨f, fd, g, F⟩ := T.dfn ("hand_out", 22) (by decide +kernel)
  have h_checked_couple := h_checked_couple (w := w) (base := base) T R
  refine ⟨f, fd, g, F.kp, F.bindsN (fun _ _ _ _ _ _ us hl => match us, hl with | [_, _, _], _ => rfl), F.ok sc_hand_out (fun vs H Q E h => ?_) fun cdv A outer s H vs Q E hr h => ?_⟩
  · obtain ⟨x, y, z, rfl, _⟩ := h
    rfl
  · refine ⟨_, pss_cons (ps_asg (pe_hasS h_checked_couple hr (by decide) (takes_of rfl rfl rfl rfl) (pa_cons (pv 0) (pa_cons (pv 1) pa_nil))) (pg_tup rfl (pgs_cons (pg_name (i := 3) sc_hand_out.nd rfl (Or.inl rfl)) (pgs_cons (pg_name (i := 4) sc_hand_out.nd rfl (Or.inl rfl)) pgs_nil)))) pss_never, ?_⟩
    obtain ⟨x, y, z, rfl, k⟩ := h
    rcases k with k | ⟨ns, pl, what, hp, wb, k⟩
    · exact ⟨_, rfl, _, rfl, x, y, rfl, .inl k⟩
    · exact ⟨_, rfl, _, rfl, x, y, rfl, .inr ⟨ns, hp, .inl ⟨pl, what, wb, k⟩⟩⟩
theorem PoolBad.ext {H H' : Hp} {x : V} {i : Int} {y : Str} (h : PoolBad H x i y) (e : ExtN H H') : PoolBad H' x i y := by
  cases h with
  | kind h ht => exact .kind (tyS_ext h e) ht
  | many h hl => exact .many (h.ext e) hl
  | coin h hl ok hy ht no => exact .coin (h.ext e) hl ok hy (tyS_ext ht e) no
theorem AmtBad.ext {H H' : Hp} {x : V} {i : Int} {y : Str} (h : AmtBad H x i y) (e : ExtN H H') : AmtBad H' x i y := by
  cases h with
  | kind h ht => exact .kind (tyS_ext h e) ht
  | many h hl => exact .many (h.ext e) hl
  | numb h h1 hl ok hy ht no => exact .numb (h.ext e) h1 hl ok hy (tyS_ext ht e) no
theorem WishBad.ext {H H' : Hp} {x : V} {t i : Int} {y : Str} (h : WishBad H t x i y) (e : ExtN H H') : WishBad H' t x i y := by
  cases h with
  | amt h => exact .amt (h.ext e)
  | sum h no => exact .sum (h.ext e) no
/-- a lambda made, its table known -/
def tLamV (T : List (Addr × Str)) : TE := fun σ H Q => Tabs T H ∧ ∀ (f : Addr) (H1 : Hp), ExtN H H1 → Tabs T H1 → Q (.ref f) H1
theorem pe_lamV {X : Cx} {T : List (Addr × Str)} {c P : Addr} {params : Arguments} {body : Expr} {scope : Scope} {pos : Pos} (TB : TabB X.base X.mg c P) (hcode : X.env.code = .ref c) (hm : (P, X.env.qual ++ "<lambda>") ∈ T) (hu : ∀ p ∈ T, p.1 = P → p.2 = X.env.qual ++ "<lambda>") (hdef : defaultsOf params X.env = ([], []))
    (hfree : ∀ y ∈ scope.names, y.2 = .free → X.env.scope.names.lookup y.1 = some .cell ∨ X.env.scope.names.lookup y.1 = some .free) : PE X (.Lambda params body scope pos) (tLamV T) := by
  refine ⟨fun pins s σ H Q I h => ?_⟩
  obtain ⟨hT, h⟩ := h
  refine lam_make2 I TB hcode hm hu hT hdef (fun y hy e => (hfree y hy e).elim (fun z => I.ok.has _ (.inl z)) fun z => I.ok.has _ (.inr z)) fun f c' pm ctv H1 s' I1 eN T1 _ _ _ _ => ?_
  exact ⟨.ref f, H1, I1, rfl, h f H1 eN T1⟩
def TL (Pr Pa Pd : Addr) : List (Addr × Str) := [(Pr, qRun), (Pa, qRai), (Pd, qDoor)]
theorem tl_of {H : Hp} (t : TabsN (TT Pr Pa Pd) H) : Tabs (TL Pr Pa Pd) H := fun p hp => by
  unfold TL at hp
  simp only [List.mem_cons, List.not_mem_nil, or_false] at hp
  rcases hp with e | e | e <;> subst e
  · exact t (Pr, fun _ _ => qRun) (by simp [TT])
  · exact t (Pa, fun _ _ => qRai) (by simp [TT])
  · exact t (Pd, fun _ _ => qDoor) (by simp [TT])
theorem tt_of {H : Hp} (t : Tabs (TL Pr Pa Pd) H) : TabsN (TT Pr Pa Pd) H := fun p hp => by
  unfold TT at hp
  simp only [List.mem_cons, List.not_mem_nil, or_false] at hp
  rcases hp with e | e | e <;> subst e
  · exact t (Pr, qRun) (by simp [TL])
  · exact t (Pa, qRai) (by simp [TL])
  · exact t (Pd, qDoor) (by simp [TL])
theorem tl_uniq (h2 : Pr ≠ Pd) (h3 : Pa ≠ Pd) : ∀ p ∈ TL Pr Pa Pd, p.1 = Pd → p.2 = qDoor := fun p hp e => by
  unfold TL at hp
  simp only [List.mem_cons, List.not_mem_nil, or_false] at hp
  rcases hp with z | z | z <;> subst z
  · exact absurd e h2
  · exact absurd e h3
  · rfl
def RetLs (Pr Pa Pd : Addr) (H : Hp) (Q : VK) (l : List V) : Prop := ∀ (p : Addr) (H' : Hp), ExtN H H' → TabsN (TT Pr Pa Pd) H' → H' p = some (.lst l) → Q (.ref p) H'
def spDoor (Pr Pa Pd : Addr) : Sp := fun vs H Q _ => ∃ (way : Int) (x y z : V), vs = [.int way, x, y, z] ∧ TabsN (TT Pr Pa Pd) H ∧
  ((∃ (pl : Int) (what : Str), PoolBad H x pl what ∧ RetLs Pr Pa Pd H Q [.str "pool", .int pl, .str what]) ∨
   (∃ (ns : List Int) (pl : Int) (what : Str), way = 0 ∧ PoolOk H x ns ∧ WishBad H ns.sum y pl what ∧ RetLs Pr Pa Pd H Q [.str "wish", .int pl, .str what]) ∨
   (∃ (ns : List Int) (t : String), way ≠ 0 ∧ PoolOk H x ns ∧ tyS H y = some t ∧ wholeB 1 5 y = false ∧ RetLs Pr Pa Pd H Q [.str "people"]))
theorem h_l_door (T : Txt K mg) (R : Ers P K mg) (C : Cts K mg) (Tb : Tbl K mg base Pr Pa Pd) : Has P w K mg base CX0 9 "_law_door" P_l_door (spDoor Pr Pa Pd) := by
  obtain ⟨f, fd, g, F⟩ := T.dfn ("_law_door", 58) (by decide +kernel)
  have h_handE := h_handE (w := w) (base := base) T R
  have h_uns := h_unserved_fault (w := w) (base := base) T R
  have hU := has_uns (P := P) (w := w) (base := base) C.uns
  have g1 := R.glo "BadPool" (by decide)
  have g2 := R.glo "BadWish" (by decide)
  have g3 := R.glo "BadPeople" (by decide)
  have g4 := R.glo "BadChoice" (by decide)
  have hb := F.bindsN (ps := P_l_door) (fun _ _ _ _ _ _ us hl => match us, hl with | [_, _, _, _], _ => rfl)
  have ef : f = He.ga K "_law_door" := by
    have z := g.symm.trans Tb.gd
    injection z with z
    injection z
  subst ef
  have hkp := F.kp
  obtain ⟨oc, od, dV, kV, doc, pm, an, cdv, ct, osl, rfl, lk, hcd, _, _⟩ := F.ex
  obtain ⟨c, rfl⟩ := He.codeIn_ref hcd
  have ec : He.codeOf K ("_law_door", none) = c := He.codeOf_eq (p := ("_law_door", none)) (show K.lookup (He.fAd K ("_law_door", none)) = _ from lk) rfl
  have TB : TabB base mg c Pd := by
    rw [← ec]
    exact Tb.d
  refine ⟨_, _, g, hkp, hb, fn_of lk hcd sc_l_door (fun vs H Q E h => ?_) fun A outer s H vs Q E hr h => ?_⟩
  · obtain ⟨_, _, _, _, rfl, _⟩ := h
    rfl
  · refine ⟨_, PSs.nox (pss_cons (K12M.ps_try_mix (Wout := fun _ _ _ _ => False)
      (tb := fun W => tIfS (tTest (tOp rEq (tVar 0) (tC (.int 0)))) (tDrop (tCallS (spHandE K) (WE W) (tCons (tVar 1) (tCons (tVar 2) (tCons (tLamV (TL Pr Pa Pd)) tNil)))))
        (tDrop (tCallS (spUns K) (WE W) (tCons (tVar 1) (tCons (tVar 2) (tCons (tMake (cC K "Unserved") (spInit (cC K "Unserved") "place" "wish") [] E0 (tCons (tC (.int 0)) (tCons (tTup (tCons (tC (.int 1)) tNil)) tNil))) tNil)))))) rfl rfl sc_l_door.nd L2.takes0
        (.named (i := 4) ⟨rfl, by decide, .inl g1⟩ rfl rfl (fun a oe cls d pn hz hf => pss_one (ps_ret (pe_lst (pa_cons pe_str (pa_cons (pe_xf R.xPool R.pool.noP hz hf (pv 4)) (pa_cons (pe_xf R.xPool R.pool.noW hz hf (pv 4)) pa_nil))))))
          (.named (i := 4) ⟨rfl, by decide, .inl g2⟩ rfl rfl (fun a oe cls d pn hz hf => pss_one (ps_ret (pe_lst (pa_cons pe_str (pa_cons (pe_xf R.xWish R.wish.noP hz hf (pv 4)) (pa_cons (pe_xf R.xWish R.wish.noW hz hf (pv 4)) pa_nil))))))
            (.plain ⟨rfl, by decide, .inl g3⟩ (fun a oe cls d pn hz hf => pss_one (ps_ret (pe_lst (pa_cons pe_str pa_nil))))
              (.plain ⟨rfl, by decide, .inl g4⟩ (fun a oe cls d pn hz hf => pss_one (ps_ret (pe_lst (pa_cons pe_str pa_nil)))) .done))))
        (fun W pn xe tk _ => pss_one (ps_if (by exact (pt_cmpR op_eq (pv 0) pe_int (nomark _)))
          (pss_one (ps_expr (by exact (pe_hasS h_handE hr (by decide) tk (pa_cons (pv 1) (pa_cons (pv 2) (pa_cons (pe_lamV TB rfl (show (Pd, qDoor) ∈ TL Pr Pa Pd by simp [TL]) (tl_uniq Tb.rd Tb.ad) rfl (ndef_free (sc := defScope s_l_door) (fr := []) (by decide +kernel))) pa_nil)))))))
          (pss_one (ps_expr (by exact (pe_hasS h_uns hr (by decide) tk (pa_cons (pv 1) (pa_cons (pv 2) (pa_cons (pe_mk2 hU hr (by decide) (pa_cons pe_int (pa_cons (pe_tup (pa_cons pe_int pa_nil)) pa_nil))) pa_nil))))))))))
      (pss_one (ps_ret (pe_lst pa_nil)))), ?_⟩
    obtain ⟨way, x, y, z, rfl, hT, k⟩ := h
    -- the suites
    have sPool : ∀ {H0 : Hp} {pl : Int} {what : Str} {D : Ends} {rest : WX}, ExtN H H0 → TabsN (TT Pr Pa Pd) H0 → True := fun _ _ => trivial
    refine ⟨_, rfl, rfl, _, rfl, ?_⟩
    refine if_eqI (fun cw => ?_) fun cw => ?_
    · refine ⟨_, rfl, _, rfl, tl_of hT, fun fl H1 e1 T1 => ?_⟩
      have T1' := tt_of T1
      refine ⟨x, y, .ref fl, rfl, ?_⟩
      rcases k with ⟨pl, what, pb, k⟩ | ⟨ns, pl, what, _, hp, wb, k⟩ | ⟨ns, t, cw2, _⟩
      · refine .inl ⟨pl, what, pb.ext e1, fun d H2 nd s2 hd => ?_⟩
        refine ⟨true, R.exm _ (by decide) _ (by decide), fun _ a0 na => ?_, fun z => nomatch z⟩
        refine ⟨_, rfl, rfl, rfl, d, _, .int pl, rfl, hd, rfl, _, rfl, rfl, rfl, d, _, .str what, rfl, hd, rfl, Evl.sz_of (show (3 : Nat) ≤ _ from by decide), fun p np => ?_⟩
        exact k p _ ((e1.trans (ExtN.of s2)).trans (ExtN.of (Same.new np))) ((T1'.ext s2).ext (Same.new np)) upd_same
      · refine .inr ⟨ns, pl, what, hp.ext e1, wb.ext e1, fun d H2 nd s2 hd => ?_⟩
        refine ⟨false, R.exm _ (by decide) _ (by decide), (fun z => nomatch z), fun _ => ⟨true, R.exm _ (by decide) _ (by decide), fun _ a0 na => ?_, fun z => nomatch z⟩⟩
        refine ⟨_, rfl, rfl, rfl, d, _, .int pl, rfl, hd, rfl, _, rfl, rfl, rfl, d, _, .str what, rfl, hd, rfl, Evl.sz_of (show (3 : Nat) ≤ _ from by decide), fun p np => ?_⟩
        exact k p _ ((e1.trans (ExtN.of s2)).trans (ExtN.of (Same.new np))) ((T1'.ext s2).ext (Same.new np)) upd_same
      · exact absurd cw cw2
    · refine ⟨_, rfl, _, rfl, Evl.sz_of (show (1 : Nat) ≤ _ from by decide), fun tp ntp => ?_⟩
      have s1 : Same H (upd H tp (.tup [.int 1])) := Same.new ntp
      refine fun xx dx nx ndx nex => ⟨xx, dx, _, _, rfl, upd_same, rfl, ?_⟩
      have sU : Same (upd H tp (.tup [.int 1])) (upd (upd (upd (upd (upd H tp (.tup [.int 1])) dx (.own xx)) xx (.ins (cC K "Unserved") dx [])) xx (.ins (cC K "Unserved") dx [("place", .int 0)])) xx (.ins (cC K "Unserved") dx [("place", .int 0), ("wish", .ref tp)])) := (((Same.new ndx).mut nx).mut nx).mut nx
      have sA := s1.trans sU
      have eA : ExtN H _ := ExtN.of sA
      refine ⟨x, y, .ref xx, rfl, ?_⟩
      rcases k with ⟨pl, what, pb, k⟩ | ⟨ns, pl, what, cw2, _⟩ | ⟨ns, t, _, hp, ht, hw, k⟩
      · refine .inl ⟨pl, what, pb.ext eA, fun d H2 nd s2 hd => ?_⟩
        refine ⟨true, R.exm _ (by decide) _ (by decide), fun _ a0 na => ?_, fun z => nomatch z⟩
        refine ⟨_, rfl, rfl, rfl, d, _, .int pl, rfl, hd, rfl, _, rfl, rfl, rfl, d, _, .str what, rfl, hd, rfl, Evl.sz_of (show (3 : Nat) ≤ _ from by decide), fun p np => ?_⟩
        exact k p _ (ExtN.of ((sA.trans s2).trans (Same.new np))) (hT.ext ((sA.trans s2).trans (Same.new np))) upd_same
      · exact absurd cw2 cw
      · refine .inr ⟨ns, t, hp.ext eA, tyS_ext ht eA, hw, fun H2 s2 => ?_⟩
        refine ⟨false, R.exm _ (by decide) _ (by decide), (fun z => nomatch z), fun _ => ⟨false, R.exm _ (by decide) _ (by decide), (fun z => nomatch z), fun _ => ⟨true, R.exm _ (by decide) _ (by decide), fun _ a0 na => ?_, fun z => nomatch z⟩⟩⟩
        refine ⟨Evl.sz_of (show (1 : Nat) ≤ _ from by decide), fun p np => ?_⟩
        exact k p _ (ExtN.of ((sA.trans s2).trans (Same.new np))) (hT.ext ((sA.trans s2).trans (Same.new np))) upd_same
end
end K12

set_option Elab.async false
set_option linter.all false
set_option maxRecDepth 100000
set_option maxHeartbeats 8000000
/-! What is wrong: a choice, a pool, a wish. -/
namespace K12
open PySem PySem.Spec PyProof.Rows L2 K12L Hand RZ
local macro_rules | `(tactic| walk_at "rd") => `(tactic| repeat (first | (with_reducible exact trivial) | refine ⟨_, rfl, ?_⟩ | refine ⟨_, _, rfl, rfl, ?_⟩ | refine Or.inl ⟨_, rfl, ?_⟩ | refine ⟨Or.inr ⟨by decide, by decide⟩, ?_⟩ | refine ⟨Or.inl ⟨by omega, by omega⟩, ?_⟩ | refine ⟨⟨by decide, by decide +kernel⟩, ?_⟩ | refine ⟨(show (0 : Int) < _ from by decide), ?_⟩ | refine ⟨(show (0 : Int) < _ from by omega), ?_⟩ | refine ⟨cdivW (by omega) (by omega), ?_⟩ | refine ⟨_, _, _, _, rfl, rfl, SqL.of (by first | assumption | exact upd_same), by rfl, ?_⟩ | refine ⟨_, _, _, _, rfl, rfl, (by first | assumption | exact upd_same), by rfl, ?_⟩ | refine ⟨_, _, rfl, Or.inl (SqL.of (by first | assumption | exact upd_same)), ?_⟩ | refine ⟨Or.inl ⟨rfl, _, SqL.of (by first | assumption | exact upd_same)⟩, ?_⟩ | refine ⟨_, _, _, rfl, rfl, (by first | assumption | exact upd_same), (Evl.sz_lt (by first | omega | (simp only [List.length_map]; omega))), ?_⟩ | refine ⟨rfl, ?_⟩))
def unN (c : Int) (ls : List Int) (n : Nat) : List Int := ((List.range n).filter fun j => decide (ls.getD j 0 < c)).map fun (j : Nat) => (j : Int)
theorem unN_succ (c : Int) (ls : List Int) (n : Nat) : unN c ls (n + 1) = if ls.getD n 0 < c then unN c ls n ++ [(n : Int)] else unN c ls n := by
  unfold unN
  rw [List.range_succ, List.filter_append]
  by_cases h : ls.getD n 0 < c
  · rw [if_pos h, List.filter_cons_of_pos (p := fun j => decide (ls.getD j 0 < c)) (decide_eq_true h), List.map_append]
    rfl
  · rw [if_neg h, List.filter_cons_of_neg (p := fun j => decide (ls.getD j 0 < c)) (by rw [decide_eq_false h]; decide), List.map_append]
    exact List.append_nil _
theorem unN_len (c : Int) (ls : List Int) (n : Nat) : (unN c ls n).length ≤ n := by
  unfold unN
  rw [List.length_map]
  refine Nat.le_trans (List.length_filter_le _ _) ?_
  simp
theorem unN_mem {c : Int} {ls : List Int} {n : Nat} {x : Int} (h : x ∈ unN c ls n) : person (.int x) c ls = none := by
  unfold unN at h
  obtain ⟨j, hj, rfl⟩ := List.mem_map.mp h
  obtain ⟨_, h2⟩ := List.mem_filter.mp hj
  have h3 := of_decide_eq_true h2
  unfold person
  show (if 0 ≤ (j : Int) ∧ (j : Int) < (ls.length : Int) ∧ c ≤ ls.getD (j : Int).toNat 0 then some (j : Int).toNat else none) = none
  rw [if_neg]
  rintro ⟨_, _, h4⟩
  rw [Int.toNat_natCast] at h4
  omega
theorem tyS_kh {hd : Hd} {H H' : Hp} {x : V} {t : String} (s : St hd H) (s' : St hd H') (k : Kh hd.1 H H') (h : tyS H x = some t) : tyS H' x = some t := by
  cases x with
  | ref a =>
    have h : kindO (H a) = some t := h
    show kindO (H' a) = some t
    by_cases e : a = hd.1
    · subst e
      obtain ⟨_, _, _, _, h1, _⟩ := s
      obtain ⟨_, _, _, _, h2, _⟩ := s'
      rw [h1] at h
      rw [h2]
      exact h
    · rcases kindO_cases h with ⟨xs, e1, rfl⟩ | ⟨xs, e1, rfl⟩ | ⟨xs, e1, rfl⟩ <;> (rw [k _ _ e e1]; rfl)
  | _ => exact h
theorem SqH.kh {hd : Hd} {b : Bool} {H H' : Hp} {a : Addr} {xs : List V} (h : SqH b H a xs) (k : Kh hd.1 H H') (n : a ≠ hd.1) : SqH b H' a xs := k _ _ n h
theorem PoolBad.kh {hd : Hd} {H H' : Hp} {x : V} {i : Int} {y : Str} (h : PoolBad H x i y) (n : x ≠ .ref hd.1) (s : St hd H) (s' : St hd H') (k : Kh hd.1 H H') : PoolBad H' x i y := by
  have na : ∀ {a : Addr}, V.ref a ≠ V.ref hd.1 → a ≠ hd.1 := fun z e => z (by rw [e])
  cases h with
  | kind h ht => exact .kind (tyS_kh s s' k h) ht
  | many h hl => exact .many (h.kh k (na n)) hl
  | coin h hl ok hy ht no => exact .coin (h.kh k (na n)) hl ok hy (tyS_kh s s' k ht) no
theorem WishBad.kh {hd : Hd} {H H' : Hp} {x : V} {t i : Int} {y : Str} (h : WishBad H t x i y) (n : x ≠ .ref hd.1) (s : St hd H) (s' : St hd H') (k : Kh hd.1 H H') : WishBad H' t x i y := by
  have na : ∀ {a : Addr}, V.ref a ≠ V.ref hd.1 → a ≠ hd.1 := fun z e => z (by rw [e])
  cases h with
  | amt h =>
    refine .amt ?_
    cases h with
    | kind h ht => exact .kind (tyS_kh s s' k h) ht
    | many h hl => exact .many (h.kh k (na n)) hl
    | numb h h1 hl ok hy ht no => exact .numb (h.kh k (na n)) h1 hl ok hy (tyS_kh s s' k ht) no
  | sum h no =>
    obtain ⟨a, b, e, h, r⟩ := h
    subst e
    exact .sum ⟨a, b, rfl, h.kh k (na n), r⟩ no
theorem odd_at (A : List Int) (B : List V) (v : V) : (A.map V.int ++ [v] ++ B)[A.length]? = some v := by
  rw [List.append_assoc, List.getElem?_append_right (by rw [List.length_map]; omega), List.length_map, Nat.sub_self]
  rfl
theorem odd_before {A : List Int} {B : List V} {v : V} {j : Nat} {z : V} (hj : j < A.length) (h : (A.map V.int ++ [v] ++ B)[j]? = some z) : ∃ c ∈ A, z = .int c := by
  rw [List.append_assoc, List.getElem?_append_left (by rw [List.length_map]; exact hj)] at h
  obtain ⟨c, hc, e⟩ := at_map h
  exact ⟨c, List.mem_of_getElem? hc, e⟩
theorem slA_of {K : PySem.W.Frag} {H : Hp} {a : Addr} {xs : List V} {lo hi : Option Int} {Q : VK} (h : H a = some (.tup xs)) (q : ∀ p H', Same H H' → H' p = some (.tup (cutV xs lo hi)) → Q (.ref p) H') : rSlA K (.ref a) lo hi H Q := by
  refine ⟨a, xs, rfl, SqT.of h, fun ⟨e1, e2⟩ => q a H (Same.refl H) ?_, fun _ p np => q p _ (Same.new np) upd_same⟩
  rw [h]
  show _ = some (HO.tup ((xs.drop (HT.sIx xs.length 0 lo)).take (HT.sIx xs.length xs.length hi - HT.sIx xs.length 0 lo)))
  rw [e1, e2, List.drop_zero, Nat.sub_zero, List.take_length]
theorem catA_of {K : PySem.W.Frag} {H : Hp} {a b : Addr} {xs ys : List V} {Q : VK} (h : H a = some (.tup xs)) (h2 : H b = some (.tup ys)) (hz : xs.length + ys.length ≤ sizeLine) (q : ∀ p H', Same H H' → H' p = some (.tup (xs ++ ys)) → Q (.ref p) H') : rCatA K (.ref a) (.ref b) H Q := by
  refine ⟨a, b, xs, ys, rfl, rfl, SqT.of h, SqT.of h2, hz, fun e => q b H (Same.refl H) ?_, fun _ e => q a H (Same.refl H) ?_, fun _ _ p np => q p _ (Same.new np) upd_same⟩
  · rw [e]
    exact h2
  · rw [e, List.append_nil]
    exact h
section
variable {P : Program} {w : World} {K : PySem.W.Frag} {mg : Str → Option Value} {base : Heap}
def spWrC : Sp := fun vs H Q _ => ∃ (hd : Hd) (c : Int) (u : Addr) (ls : List Int), vs = [.ref hd.1, .int c, .ref u] ∧ St hd H ∧ H u = some (.tup (ls.map V.int)) ∧ ls.length ≤ 5 ∧
  ∀ (v : V) (ty : String) (H' : Hp), St hd H' → Kh hd.1 H H' → person v c ls = none → tyS H' v = some ty → Q v H'
theorem h_l_wrong_choice (T : Txt K mg) : Has P w K mg base CX0 3 "_law_wrong_choice" P_l_wrong_choice spWrC := by
  obtain ⟨f, fd, g, F⟩ := T.dfn ("_law_wrong_choice", 54) (by decide +kernel)
  have h_l_take := h_l_take (P := P) (w := w) (base := base) T
  refine ⟨f, fd, g, F.kp, F.bindsN (fun _ _ _ _ _ _ us hl => match us, hl with | [_, _, _], _ => rfl), F.ok sc_l_wrong_choice (fun vs H Q E h => ?_) fun cdv A outer s H vs Q E hr h => ?_⟩
  · obtain ⟨hd, c, u, ls, rfl, _⟩ := h
    rfl
  · obtain ⟨hd, c, u, ls, rfl, hs, hu, hl, k⟩ := h
    refine ⟨_, PSs.nox (pss_cons (ps_setLc (i := 3) (own := [("_law_person", 4)]) (g := gName 4) (tt := tTest (tOp (rI0 fun i j => .bl (decide (i < j))) (tOp (rIxT K) (tVar 2) (tVar 4)) (tVar 1))) rfl sc_l_wrong_choice.nd rfl rfl (sw_true rfl rfl rfl (by decide +kernel)) (pi_range1 rfl (T.free "range" (by decide)) (pa_cons (pe_callB call_len_seq rfl (T.free "len" (by decide)) (by decide +kernel) (pa_cons (pv 2) pa_nil)) pa_nil)) (blkOk_by (N := N_l_wrong_choice) (sc := defScope s_l_wrong_choice) (by decide +kernel)) (fun _ _ _ _ _ => pg_name (i := 4) sc_l_wrong_choice.nd rfl (Or.inl rfl)) (fun _ _ _ _ _ => pts_one (pt_cmpR op_lt (pe_ix ix_tup (pv 2) (pv 4) (fun _ _ => rfl)) (pv 1) (nomark _))) (fun _ _ _ _ _ => (pv 4)))
  (pss_cons (ps_if (PW.pt (pw_and (pt_cmpR (op_neD hr.units) (pv 3) (pe_lst pa_nil) (nomark _)) (pw_and1 (pt_truth (pe_has h_l_take hr (by decide) (pa_cons (pv 0) (pa_cons pe_int pa_nil))) (by intro _; rfl)))))
    (pss_one (ps_ret (pe_ix ix_list (pv 3) (pe_has h_l_take hr (by decide) (pa_cons (pv 0) (pa_cons (pe_callB call_len_seq rfl (T.free "len" (by decide)) (by decide +kernel) (pa_cons (pv 3) pa_nil)) pa_nil))) (fun _ _ => rfl))))
    pss_nil)
  (pss_one (ps_ret (pe_ix ix_list (pe_lst (pa_cons (pe_un un_neg pe_int) (pa_cons (pe_callB call_len_seq rfl (T.free "len" (by decide)) (by decide +kernel) (pa_cons (pv 2) pa_nil)) (pa_cons pe_bl (pa_cons pe_bl (pa_cons pe_non (pa_cons pe_str (pa_cons (pe_tup (pa_cons pe_int pa_nil)) pa_nil)))))))) (pe_has h_l_take hr (by decide) (pa_cons (pv 0) (pa_cons pe_int pa_nil))) (fun _ _ => rfl))))))
    , ?_⟩
    have hN : (((ls.map V.int).length : Nat) : Int).toNat = ls.length := by rw [List.length_map, Int.toNat_natCast]
    refine ⟨_, rfl, u, _, rfl, .inr (SqT.of hu), _, rfl, by rw [List.length_map]; omega, by rw [List.length_map]; omega, fun D nD => lc_range (lo := 0) (n := (((ls.map V.int).length : Nat) : Int).toNat) (fun i H1 => H1 D = some (.lst ((unN c ls i).map V.int)) ∧ Same H H1) ⟨upd_same, Same.new nD⟩ ?_ ?_⟩
    · rintro i H1 hi ⟨hD, s1⟩
      rw [hN] at hi
      refine ⟨rfl, ?_⟩
      have e := unN_succ c ls i
      refine ⟨_, rfl, _, rfl, u, _, _, .int (ls.getD i 0), rfl, rfl, SqT.of (s1 _ _ hu), (by rw [Int.zero_add]; exact atI_nat (by rw [List.getElem?_map, List.getElem?_eq_getElem hi, getD_lt hi] <;> rfl)), ?_⟩
      refine ⟨_, rfl, _, _, rfl, rfl, _, rfl, ?_⟩
      refine if_dec (fun c1 => ?_) fun c1 => ?_
      · rw [if_pos c1] at e
        refine ⟨_, rfl, _, hD, Evl.sz_lt (by rw [List.length_map]; have := unN_len c ls i; omega), ?_, s1.mut nD⟩
        rw [upd_same, e, List.map_append, Int.zero_add]
        rfl
      · rw [if_neg c1] at e
        exact ⟨by rw [e]; exact hD, s1⟩
    · rintro H1 ⟨hD, s1⟩
      rw [hN] at hD
      have hs1 := hs.same s1
      have Dh := hs1.ints hD
      have kk1 : Kh hd.1 H H1 := Kh.of s1
      have hul := unN_len c ls ls.length
      have hmem : ∀ x ∈ unN c ls ls.length, person (.int x) c ls = none := fun x hx => unN_mem hx
      generalize unN c ls ls.length = us at hD hul hmem
      have fin : ∀ (H2 : Hp), St hd H2 → Kh hd.1 H H2 → H2 u = some (.tup (ls.map V.int)) → (fun (σ : L2.St) (H2 : Hp) => tRet (tOp (rIxL K) (tLst (tCons (tUn (rU fun i => V.int (-i)) (tC (V.int 1))) (tCons (tCB (rLenQ K) (tCons (tVar 2) tNil)) (tCons (tC (V.bl true)) (tCons (tC (V.bl false)) (tCons (tC V.non) (tCons (tC (V.str "0")) (tCons (tTup (tCons (tC (V.int 0)) tNil)) tNil)))))))) (tCall spTake [] E0 (tCons (tVar 0) (tCons (tC (V.int 7)) tNil)))) { nx := fun x H' => Q V.non H', rt := Q } σ H2) [some (.ref hd.1), some (.int c), some (.ref u), some (.ref D), none] H2 := fun H2 s2 k2 hu2 => by
        refine ⟨_, rfl, _, rfl, u, _, rfl, .inr (SqT.of hu2), Evl.sz_of (show (1 : Nat) ≤ _ from by decide), fun t nt => ⟨Evl.sz_of (show (7 : Nat) ≤ _ from by decide), fun p np => ?_⟩⟩
        have s3 := (s2.new (o := .tup [.int 0]) nt)
        have ht : upd H2 t (.tup [.int 0]) t = some (.tup [.int 0]) := upd_same
        have k3 : Kh hd.1 H (upd H2 t (.tup [.int 0])) := k2.trans (Kh.new nt)
        generalize upd H2 t (.tup [.int 0]) = H3 at np s3 ht k3
        refine ⟨_, rfl, hd, _, rfl, s3.new np, by decide, by decide, fun r H4 r0 r1 s4 k4 => ?_⟩
        have hp := k4 _ _ (s3.ne np) upd_same
        have ht4 := ((Kh.new np).trans k4) _ _ (s3.tupl ht) ht
        have kk : Kh hd.1 H H4 := (k3.trans (Kh.new np)).trans k4
        obtain ⟨n, rfl⟩ := Int.eq_ofNat_of_zero_le r0
        have go : ∀ (v : V) (ty : String), person v c ls = none → tyS H4 v = some ty → Q v H4 := fun v ty h1 h2 => k v ty H4 s4 kk h1 h2
        have hn : n = 0 ∨ n = 1 ∨ n = 2 ∨ n = 3 ∨ n = 4 ∨ n = 5 ∨ n = 6 := by omega
        rcases hn with e | e | e | e | e | e | e
        · subst e
          exact ⟨_, _, _, _, rfl, rfl, SqL.of hp, rfl, go _ "int" rfl rfl⟩
        · subst e
          refine ⟨_, _, _, _, rfl, rfl, SqL.of hp, rfl, go _ "int" ?_ rfl⟩
          unfold person
          show (if 0 ≤ (((ls.map V.int).length : Nat) : Int) ∧ (((ls.map V.int).length : Nat) : Int) < (ls.length : Int) ∧ _ then some _ else none) = none
          rw [if_neg]
          rintro ⟨_, h4, _⟩
          rw [List.length_map] at h4
          omega
        · subst e
          exact ⟨_, _, _, _, rfl, rfl, SqL.of hp, rfl, go _ "bool" rfl rfl⟩
        · subst e
          exact ⟨_, _, _, _, rfl, rfl, SqL.of hp, rfl, go _ "bool" rfl rfl⟩
        · subst e
          exact ⟨_, _, _, _, rfl, rfl, SqL.of hp, rfl, go _ "NoneType" rfl rfl⟩
        · subst e
          exact ⟨_, _, _, _, rfl, rfl, SqL.of hp, rfl, go _ "str" rfl rfl⟩
        · subst e
          refine ⟨_, _, _, _, rfl, rfl, SqL.of hp, rfl, go _ "tuple" rfl ?_⟩
          show kindO (H4 t) = _
          rw [ht4]
          rfl
      refine ⟨_, rfl, Evl.sz_of (show (0 : Nat) ≤ _ from by decide), fun e0 ne0 => ?_⟩
      have hD2 := Same.new (o := .lst []) ne0 _ _ hD
      have s2 : Same H (upd H1 e0 (.lst [])) := s1.trans (Same.new ne0)
      have hs2 := hs1.new (o := .lst []) ne0
      refine ⟨.list (dInts us), .list [], .lst (SqL.of hD2) (dp_ints _), .lst (SqL.of upd_same) .nil, (Fl.list (k := 1) (fl_ints us)).shaped (by decide), (Fl.list (k := 1) (xs := []) (by simp)).shaped (by decide), _, rfl, ?_⟩
      rw [eqv_nil]
      generalize upd H1 e0 (.lst []) = H2 at hD2 s2 hs2
      by_cases hnil : us = []
      · rw [decide_eq_true hnil]
        exact fin H2 hs2 (Kh.of s2) (s2 _ _ hu)
      · rw [decide_eq_false hnil]
        refine ⟨_, rfl, hd, _, rfl, hs2, by decide, by decide, fun r H3 r0 r1 s3 k3 => ⟨_, rfl, ?_⟩⟩
        have hD3 := k3 _ _ Dh hD2
        cases hb : (r != 0) with
        | true =>
          have hpos : 0 < us.length := by
            cases us with
            | nil => exact absurd rfl hnil
            | cons a b => exact Nat.succ_pos _
          refine ⟨_, rfl, _, rfl, _, rfl, D, _, rfl, .inl (SqL.of hD3), hd, _, rfl, s3, by rw [List.length_map]; omega, by rw [List.length_map]; omega, fun r2 H4 r20 r21 s4 k4 => ?_⟩
          have hD4 := k4 _ _ Dh hD3
          obtain ⟨n, rfl⟩ := Int.eq_ofNat_of_zero_le r20
          rw [List.length_map] at r21
          have hn : n < us.length := by omega
          refine ⟨D, _, _, .int us[n], rfl, rfl, SqL.of hD4, atI_nat (by rw [List.getElem?_map, List.getElem?_eq_getElem hn] <;> rfl), ?_⟩
          exact k _ "int" H4 s4 (((Kh.of s2).trans k3).trans k4) (hmem _ (List.getElem_mem hn)) rfl
        | false => exact fin H3 s3 ((Kh.of s2).trans k3) (k3.tup hs2 (s2 _ _ hu))
def spWrP : Sp := fun vs H Q _ => ∃ (hd : Hd) (a : Addr) (cs : List Int), vs = [.ref hd.1, .ref a] ∧ St hd H ∧ H a = some (.lst (cs.map V.int)) ∧ cs.length ≤ 12 ∧ In 1 1000000000 cs ∧
  ∀ (p : Addr) (x : V) (pl : Int) (what : Str) (H' : Hp), H p = none → St hd H' → Kh hd.1 H H' → H' p = some (.lst [x, .int pl, .str what]) → PoolBad H' x pl what → x ≠ .ref hd.1 → p ≠ hd.1 → Q (.ref p) H'
theorem h_l_wrong_pool (T : Txt K mg) : Has P w K mg base CX0 3 "_law_wrong_pool" P_l_wrong_pool spWrP := by
  obtain ⟨f, fd, g, F⟩ := T.dfn ("_law_wrong_pool", 56) (by decide +kernel)
  have h_l_take := h_l_take (P := P) (w := w) (base := base) T
  refine ⟨f, fd, g, F.kp, F.bindsN (fun _ _ _ _ _ _ us hl => match us, hl with | [_, _], _ => rfl), F.ok sc_l_wrong_pool (fun vs H Q E h => ?_) fun cdv A outer s H vs Q E hr h => ?_⟩
  · obtain ⟨hd, a, cs, rfl, _⟩ := h
    rfl
  · obtain ⟨hd, a, cs, rfl, hs, ha, hl, hc, k⟩ := h
    refine ⟨_, PSs.nox (pss_cons (ps_set (i := 2) sc_l_wrong_pool.nd rfl (Or.inl rfl) (pe_has h_l_take hr (by decide) (pa_cons (pv 0) (pa_cons pe_int pa_nil))))
  (pss_cons (ps_if (pt_cmpR op_eq (pv 2) pe_int (nomark _))
    (pss_one (ps_ret (pe_lst (pa_cons (pe_ix ix_list (pe_lst (pa_cons pe_non (pa_cons pe_str (pa_cons pe_int (pa_cons (pe_disp (pps_cons pe_int pe_int pps_nil) (by rfl) (by rfl) (fun z => by cases z) (by decide)) pa_nil))))) (pe_has h_l_take hr (by decide) (pa_cons (pv 0) (pa_cons pe_int pa_nil))) (fun _ _ => rfl)) (pa_cons pe_int (pa_cons pe_str pa_nil))))))
    pss_nil)
  (pss_cons (ps_if (pt_cmpR op_eq (pv 2) pe_int (nomark _))
    (pss_one (ps_ret (pe_lst (pa_cons (pe_op op_rep (pe_lst (pa_cons pe_int pa_nil)) pe_int) (pa_cons pe_int (pa_cons pe_str pa_nil))))))
    pss_nil)
  (pss_cons (ps_set (i := 3) sc_l_wrong_pool.nd rfl (Or.inl rfl) (pe_has h_l_take hr (by decide) (pa_cons (pv 0) (pa_cons (pe_op op_add (pe_callB call_len_seq rfl (T.free "len" (by decide)) (by decide +kernel) (pa_cons (pv 1) pa_nil)) pe_int) pa_nil))))
  (Evl.pss_cut (ps_set (i := 4) sc_l_wrong_pool.nd rfl (Or.inl rfl) (pe_ix ix_list (pe_lst (pa_cons pe_int (pa_cons (pe_un un_neg pe_int) (pa_cons pe_bl (pa_cons pe_str (pa_cons pe_non (pa_cons (pe_op op_add (pe_op op_pow pe_int pe_int) pe_int) (pa_cons (pe_tup (pa_cons pe_int pa_nil)) pa_nil)))))))) (pe_has h_l_take hr (by decide) (pa_cons (pv 0) (pa_cons pe_int pa_nil))) (fun _ _ => rfl)))
  (pss_cons (ps_set (i := 5) sc_l_wrong_pool.nd rfl (Or.inl rfl) (pe_callTy call_list_of rfl (T.free "list" (by decide)) (by decide +kernel) (pa_cons (pe_slice sl_list (pv 1) po_none (po_some pe_int)) pa_nil)))
  (pss_one (ps_ret (pe_lst (pa_cons (pe_op op_cat (pe_op op_cat (pe_slice sl_list (pv 5) po_none (po_some (pv 3))) (pe_lst (pa_cons (pv 4) pa_nil))) (pe_slice sl_list (pv 5) (po_some (pv 3)) po_none)) (pa_cons (pe_callB (call_min2 rfl) rfl (T.free "min" (by decide)) (by decide +kernel) (pa_cons (pv 3) (pa_cons (pe_callB call_len_seq rfl (T.free "len" (by decide)) (by decide +kernel) (pa_cons (pv 5) pa_nil)) pa_nil))) (pa_cons pe_str pa_nil))))))))))))
    , ?_⟩
    have ah := hs.ints ha
    refine ⟨_, rfl, hd, _, rfl, hs, by decide, by decide, fun r H1 r0 r1 s1 k1 => ?_⟩
    have ha1 := k1 _ _ ah ha
    refine ⟨_, rfl, rfl, _, rfl, ?_⟩
    refine if_eqI (fun c1 => ?_) fun c1 => ?_
    · refine fun d nd => ⟨upd_same, [(.inl 1, .int 1)], rfl, by decide, ?_⟩
      have sd : St hd (upd (upd H1 d (.dK [])) d (.dK (mergeK [] [(.inl 1, .int 1)]))) := (s1.new nd).mut (s1.ne nd) (s1.nc nd)
      have kd : Kh hd.1 H (upd (upd H1 d (.dK [])) d (.dK (mergeK [] [(.inl 1, .int 1)]))) := k1.trans ((Kh.new nd).mut nd)
      have hdk : upd (upd H1 d (.dK [])) d (.dK (mergeK [] [(.inl 1, .int 1)])) d = some (.dK (mergeK [] [(.inl 1, .int 1)])) := upd_same
      have dh := s1.ne nd
      generalize upd (upd H1 d (.dK [])) d (.dK (mergeK [] [(.inl 1, .int 1)])) = H2 at sd kd hdk
      refine ⟨Evl.sz_of (show (4 : Nat) ≤ _ from by decide), fun p np => ?_⟩
      refine ⟨_, rfl, hd, _, rfl, sd.new np, by decide, by decide, fun r2 H4 r20 r21 s4 k4 => ?_⟩
      have hp := k4 _ _ (sd.ne np) upd_same
      have hd4 := ((Kh.new np).trans k4) _ _ dh hdk
      have kk : Kh hd.1 H H4 := (kd.trans (Kh.new np)).trans k4
      obtain ⟨n, rfl⟩ := Int.eq_ofNat_of_zero_le r20
      have go : ∀ (v : V) (t : String), tyS H4 v = some t → t ∈ ["int", "str", "NoneType", "dict"] → v ≠ .ref hd.1 → ([v, .int 0, .str "many"] : List V).length ≤ sizeLine ∧ ∀ q, H4 q = none → Q (.ref q) (upd H4 q (.lst [v, .int 0, .str "many"])) := fun v t h1 h2 h3 =>
        ⟨Evl.sz_of (show (3 : Nat) ≤ _ from by decide), fun q nq => k q v 0 "many" _ (kk.none s4 nq) (s4.new nq) (kk.trans (Kh.new nq)) upd_same (.kind (tyS_same (Same.new nq) h1) h2) h3 (s4.ne nq)⟩
      have hn : n = 0 ∨ n = 1 ∨ n = 2 ∨ n = 3 := by omega
      rcases hn with e | e | e | e
      · subst e
        exact ⟨_, _, _, _, rfl, rfl, SqL.of hp, rfl, go _ "NoneType" rfl (by decide) (fun z => nomatch z)⟩
      · subst e
        exact ⟨_, _, _, _, rfl, rfl, SqL.of hp, rfl, go _ "str" rfl (by decide) (fun z => nomatch z)⟩
      · subst e
        exact ⟨_, _, _, _, rfl, rfl, SqL.of hp, rfl, go _ "int" rfl (by decide) (fun z => nomatch z)⟩
      · subst e
        refine ⟨_, _, _, _, rfl, rfl, SqL.of hp, rfl, go (.ref d) "dict" ?_ (by decide) (fun z => dh (by injection z))⟩
        show kindO (H4 d) = _
        rw [hd4]
        rfl
    refine ⟨_, rfl, rfl, _, rfl, ?_⟩
    refine if_eqI (fun c2 => ?_) fun c2 => ?_
    · refine ⟨Evl.sz_of (show (1 : Nat) ≤ _ from by decide), fun p np => ⟨p, 13, _, rfl, rfl, upd_same, by decide, by decide, Evl.sz_of (show (1 * 13 : Nat) ≤ _ from by decide), fun q nq => ?_⟩⟩
      have s2 := (Same.new (o := .lst [.int 1]) np).trans (Same.new (o := .lst (List.replicate 13 [V.int 1]).flatten) nq)
      refine ⟨Evl.sz_of (show (3 : Nat) ≤ _ from by decide), fun z nz => ?_⟩
      have s3 := s2.trans (Same.new (o := .lst [.ref q, .int 0, .str "many"]) nz)
      exact k z (.ref q) 0 "many" _ (k1.none s1 (s2.free nz)) (s1.same s3) (k1.trans (Kh.of s3)) upd_same (.many (b := false) (Same.new nz _ _ upd_same) (by decide)) (fun e => (s1.new np).ne nq (by injection e)) ((s1.same s2).ne nz)
    refine ⟨_, rfl, _, rfl, a, _, rfl, .inl (SqL.of ha1), _, _, rfl, rfl, hd, _, rfl, s1, by omega, by rw [List.length_map]; omega, fun rn H2 n0 n1 s2 k2 => ?_⟩
    have ha2 := k2 _ _ ah ha1
    have k02 := k1.trans k2
    obtain ⟨n, rfl⟩ := Int.eq_ofNat_of_zero_le n0
    refine ⟨fun σ H4 => ∃ (v : V) (ty : String), σ = [some (.ref hd.1), some (.ref a), some (.int r), some (.int (n : Int)), some v, none] ∧ tyS H4 v = some ty ∧ wholeB 1 1000000000 v = false ∧ St hd H4 ∧ Kh hd.1 H H4, ?_, ?_⟩
    · walk_at "rd"
      refine ⟨Evl.sz_of (show (1 : Nat) ≤ _ from by decide), fun t nt => ⟨Evl.sz_of (show (7 : Nat) ≤ _ from by decide), fun p np => ?_⟩⟩
      have s3 := (s2.new (o := .tup [.int 1]) nt)
      have ht : upd H2 t (.tup [.int 1]) t = some (.tup [.int 1]) := upd_same
      have k3 : Kh hd.1 H (upd H2 t (.tup [.int 1])) := k02.trans (Kh.new nt)
      generalize upd H2 t (.tup [.int 1]) = H3 at np s3 ht k3
      refine ⟨_, rfl, hd, _, rfl, s3.new np, by decide, by decide, fun r2 H4 r20 r21 s4 k4 => ?_⟩
      have hp := k4 _ _ (s3.ne np) upd_same
      have th := s3.tupl ht
      have ht4 := ((Kh.new np).trans k4) _ _ th ht
      have kk : Kh hd.1 H H4 := (k3.trans (Kh.new np)).trans k4
      obtain ⟨j, rfl⟩ := Int.eq_ofNat_of_zero_le r20
      have hn : j = 0 ∨ j = 1 ∨ j = 2 ∨ j = 3 ∨ j = 4 ∨ j = 5 ∨ j = 6 := by omega
      rcases hn with e | e | e | e | e | e | e
      · subst e
        exact ⟨_, _, _, _, rfl, rfl, SqL.of hp, rfl, _, "int", rfl, rfl, by decide, s4, kk⟩
      · subst e
        exact ⟨_, _, _, _, rfl, rfl, SqL.of hp, rfl, _, "int", rfl, rfl, by decide, s4, kk⟩
      · subst e
        exact ⟨_, _, _, _, rfl, rfl, SqL.of hp, rfl, _, "bool", rfl, rfl, by decide, s4, kk⟩
      · subst e
        exact ⟨_, _, _, _, rfl, rfl, SqL.of hp, rfl, _, "str", rfl, rfl, by rfl, s4, kk⟩
      · subst e
        exact ⟨_, _, _, _, rfl, rfl, SqL.of hp, rfl, _, "NoneType", rfl, rfl, by rfl, s4, kk⟩
      · subst e
        exact ⟨_, _, _, _, rfl, rfl, SqL.of hp, rfl, _, "int", rfl, rfl, by decide +kernel, s4, kk⟩
      · subst e
        refine ⟨_, _, _, _, rfl, rfl, SqL.of hp, rfl, _, "tuple", rfl, ?_, by rfl, s4, kk⟩
        show kindO (H4 t) = _
        rw [ht4]
        rfl
    · rintro σ H4 ⟨v, ty, rfl, ht, hw, s4, k4⟩
      have ha4 := k4 _ _ ah ha
      refine ⟨_, rfl, _, rfl, a, _, rfl, SqL.of ha4, fun p1 np1 => ?_⟩
      rw [cut_map, show cutI cs none (some 11) = cs.take 11 from cutI_to cs 11]
      refine ⟨p1, _, rfl, .inl (SqL.of upd_same), fun l nl => ?_⟩
      have s5 : Same H4 (upd (upd H4 p1 (.lst ((cs.take 11).map V.int))) l (.lst ((cs.take 11).map V.int))) := (Same.new np1).trans (Same.new nl)
      have hl5 : upd (upd H4 p1 (.lst ((cs.take 11).map V.int))) l (.lst ((cs.take 11).map V.int)) l = some (.lst ((cs.take 11).map V.int)) := upd_same
      have hrl : (cs.take 11).length ≤ 11 := by rw [List.length_take]; omega
      have hin : In 1 1000000000 (cs.take 11) := fun x hx => hc x (List.mem_of_mem_take hx)
      generalize upd (upd H4 p1 (.lst ((cs.take 11).map V.int))) l (.lst ((cs.take 11).map V.int)) = H5 at s5 hl5
      generalize cs.take 11 = rs at hl5 hrl hin
      refine ⟨_, rfl, _, rfl, _, rfl, l, _, rfl, SqL.of hl5, fun q1 nq1 => ?_⟩
      rw [cut_map, cutI_to]
      have hl6 := Same.new (o := .lst ((rs.take n).map V.int)) nq1 _ _ hl5
      refine ⟨_, rfl, Evl.sz_of (show (1 : Nat) ≤ _ from by decide), fun q2 nq2 => ?_⟩
      have hl7 := Same.new (o := .lst [v]) nq2 _ _ hl6
      have hq1 := Same.new (o := .lst [v]) nq2 _ _ (upd_same (H := H5) (a := q1) (o := .lst ((rs.take n).map V.int)))
      refine ⟨q1, q2, _, _, rfl, rfl, hq1, upd_same, Evl.sz_of (by rw [List.length_map, List.length_take]; show min n rs.length + 1 ≤ _; omega), fun q3 nq3 => ?_⟩
      have hl8 := Same.new (o := .lst ((rs.take n).map V.int ++ [v])) nq3 _ _ hl7
      refine ⟨_, rfl, _, rfl, _, rfl, l, _, rfl, SqL.of hl8, fun q4 nq4 => ?_⟩
      rw [cut_map, cutI_from]
      have hq3 := Same.new (o := .lst ((rs.drop n).map V.int)) nq4 _ _ (upd_same (H := upd (upd H5 q1 (.lst ((rs.take n).map V.int))) q2 (.lst [v])) (a := q3) (o := .lst ((rs.take n).map V.int ++ [v])))
      have hl9 := Same.new (o := .lst ((rs.drop n).map V.int)) nq4 _ _ hl8
      refine ⟨q3, q4, _, _, rfl, rfl, hq3, upd_same, Evl.sz_of (by rw [List.length_append, List.length_map, List.length_take, List.length_map, List.length_drop]; show min n rs.length + 1 + (rs.length - n) ≤ _; omega), fun q5 nq5 => ?_⟩
      have s6a := ((((Same.new (o := .lst ((rs.take n).map V.int)) nq1).trans (Same.new (o := .lst [v]) nq2)).trans (Same.new (o := .lst ((rs.take n).map V.int ++ [v])) nq3)).trans (Same.new (o := .lst ((rs.drop n).map V.int)) nq4))
      have q5h := (s4.same (s5.trans s6a)).ne nq5
      have s6 := s6a.trans (Same.new (o := .lst ((rs.take n).map V.int ++ [v] ++ (rs.drop n).map V.int)) nq5)
      have hl10 := Same.new (o := .lst ((rs.take n).map V.int ++ [v] ++ (rs.drop n).map V.int)) nq5 _ _ hl9
      refine ⟨_, rfl, _, rfl, l, _, rfl, .inl (SqL.of hl10), _, _, rfl, ?_⟩
      have ei : (if (((rs.map V.int).length : Nat) : Int) < (n : Int) then (((rs.map V.int).length : Nat) : Int) else (n : Int)) = (((rs.take n).length : Nat) : Int) := by
        rw [List.length_map, List.length_take]
        split <;> omega
      rw [ei]
      refine ⟨Evl.sz_of (show (3 : Nat) ≤ _ from by decide), fun z nz => ?_⟩
      have s7 := (s5.trans s6).trans (Same.new (o := .lst [.ref q5, .int (((rs.take n).length : Nat) : Int), .str "coin"]) nz)
      refine k z (.ref q5) _ "coin" _ (k4.none s4 (s5.free (s6.free nz))) (s4.same s7) (k4.trans (Kh.of s7)) upd_same ?_ (fun e => q5h (by injection e)) ((s4.same (s5.trans s6)).ne nz)
      refine .coin (b := false) (y := v) (t := ty) (Same.new nz _ _ upd_same) ?_ (fun j y hj hy => ?_) (odd_at _ _ _) (tyS_same s7 ht) hw
      · rw [List.length_append, List.length_append, List.length_map, List.length_take, List.length_map, List.length_drop]
        show min n rs.length + 1 + (rs.length - n) ≤ 12
        omega
      · obtain ⟨c, hc', rfl⟩ := odd_before hj hy
        obtain ⟨h1, h2⟩ := hin c (List.mem_of_mem_take hc')
        exact ⟨c, rfl, h1, h2⟩
def spWrW : Sp := fun vs H Q _ => ∃ (hd : Hd) (u : Addr) (W : List Int), vs = [.ref hd.1, .ref u] ∧ St hd H ∧ H u = some (.tup (W.map V.int)) ∧ 1 ≤ W.length ∧ W.length ≤ 5 ∧ (∀ c ∈ W, 0 ≤ c ∧ c < 12000000000 + 1) ∧ W.sum < 12000000000 + 1 ∧ 
  ∀ (p : Addr) (x : V) (pl : Int) (what : Str) (H' : Hp), St hd H' → Kh hd.1 H H' → H' p = some (.lst [x, .int pl, .str what]) → WishBad H' W.sum x pl what → x ≠ .ref hd.1 → p ≠ hd.1 → Q (.ref p) H'
theorem h_l_wrong_wish (T : Txt K mg) : Has P w K mg base CX0 3 "_law_wrong_wish" P_l_wrong_wish spWrW := by
  obtain ⟨f, fd, g, F⟩ := T.dfn ("_law_wrong_wish", 57) (by decide +kernel)
  have h_l_take := h_l_take (P := P) (w := w) (base := base) T
  refine ⟨f, fd, g, F.kp, F.bindsN (fun _ _ _ _ _ _ us hl => match us, hl with | [_, _], _ => rfl), F.ok sc_l_wrong_wish (fun vs H Q E h => ?_) fun cdv A outer s H vs Q E hr h => ?_⟩
  · obtain ⟨hd, u, W, rfl, _⟩ := h
    rfl
  · obtain ⟨hd, u, W, rfl, hs, hu, w1, w5, hw, hsum, k⟩ := h
    refine ⟨_, PSs.nox (pss_cons (ps_set (i := 2) sc_l_wrong_wish.nd rfl (Or.inl rfl) (pe_has h_l_take hr (by decide) (pa_cons (pv 0) (pa_cons pe_int pa_nil))))
  (pss_cons (ps_if (pt_cmpR op_eq (pv 2) pe_int (nomark _))
    (pss_one (ps_ret (pe_lst (pa_cons (pe_ix ix_list (pe_lst (pa_cons pe_non (pa_cons (pe_tup pa_nil) (pa_cons pe_str (pa_cons pe_int (pa_cons (pe_op op_rep (pe_lst (pa_cons pe_int pa_nil)) pe_int) pa_nil)))))) (pe_has h_l_take hr (by decide) (pa_cons (pv 0) (pa_cons pe_int pa_nil))) (fun _ _ => rfl)) (pa_cons pe_int (pa_cons pe_str pa_nil))))))
    pss_nil)
  (pss_cons (ps_if (pt_cmpR op_eq (pv 2) pe_int (nomark _))
    (pss_cons (ps_set (i := 3) sc_l_wrong_wish.nd rfl (Or.inl rfl) (pe_has h_l_take hr (by decide) (pa_cons (pv 0) (pa_cons (pe_callB call_len_seq rfl (T.free "len" (by decide)) (by decide +kernel) (pa_cons (pv 1) pa_nil)) pa_nil))))
    (Evl.pss_cut (ps_set (i := 4) sc_l_wrong_wish.nd rfl (Or.inl rfl) (pe_ifExp (pt_cmpR op_eq (pe_ix ix_tup (pv 1) (pv 3) (fun _ _ => rfl)) pe_int (nomark _)) pe_int (pe_un un_neg pe_int)))
    (pss_one (ps_ret (pe_lst (pa_cons (pe_op op_catA (pe_op op_catA (pe_slice sl_tupA (pv 1) po_none (po_some (pv 3))) (pe_tup (pa_cons (pe_op op_add (pe_ix ix_tup (pv 1) (pv 3) (fun _ _ => rfl)) (pv 4)) pa_nil))) (pe_slice sl_tupA (pv 1) (po_some (pe_op op_add (pv 3) pe_int)) po_none)) (pa_cons (pe_callB call_len_seq rfl (T.free "len" (by decide)) (by decide +kernel) (pa_cons (pv 1) pa_nil)) (pa_cons pe_str pa_nil))))))))
    pss_nil)
  (pss_cons (ps_set (i := 3) sc_l_wrong_wish.nd rfl (Or.inl rfl) (pe_has h_l_take hr (by decide) (pa_cons (pv 0) (pa_cons (pe_callB call_len_seq rfl (T.free "len" (by decide)) (by decide +kernel) (pa_cons (pv 1) pa_nil)) pa_nil))))
  (Evl.pss_cut (ps_set (i := 5) sc_l_wrong_wish.nd rfl (Or.inl rfl) (pe_ix ix_list (pe_lst (pa_cons (pe_un un_neg pe_int) (pa_cons pe_bl (pa_cons pe_str (pa_cons pe_non (pa_cons (pe_op op_add (pe_op op_mul pe_int (pe_op op_pow pe_int pe_int)) pe_int) (pa_cons (pe_tup (pa_cons pe_int pa_nil)) pa_nil))))))) (pe_has h_l_take hr (by decide) (pa_cons (pv 0) (pa_cons pe_int pa_nil))) (fun _ _ => rfl)))
  (pss_one (ps_ret (pe_lst (pa_cons (pe_op op_cat (pe_op op_cat (pe_callTy call_list_of rfl (T.free "list" (by decide)) (by decide +kernel) (pa_cons (pe_slice sl_tupA (pv 1) po_none (po_some (pv 3))) pa_nil)) (pe_lst (pa_cons (pv 5) pa_nil))) (pe_callTy call_list_of rfl (T.free "list" (by decide)) (by decide +kernel) (pa_cons (pe_slice sl_tupA (pv 1) (po_some (pe_op op_add (pv 3) pe_int)) po_none) pa_nil))) (pa_cons (pv 3) (pa_cons pe_str pa_nil)))))))))))
    , ?_⟩
    refine ⟨_, rfl, hd, _, rfl, hs, by decide, by decide, fun r H1 r0 r1 s1 k1 => ?_⟩
    have hu1 := k1.tup hs hu
    refine ⟨_, rfl, rfl, _, rfl, ?_⟩
    refine if_eqI (fun c1 => ?_) fun c1 => ?_
    · refine ⟨Evl.sz_of (show (0 : Nat) ≤ _ from by decide), fun t nt => ?_⟩
      refine ⟨Evl.sz_of (show (1 : Nat) ≤ _ from by decide), fun b nb => ⟨b, 6, _, rfl, rfl, upd_same, by decide, by decide, Evl.sz_of (show (1 * 6 : Nat) ≤ _ from by decide), fun l nl => ?_⟩⟩
      have s2 := ((Same.new (o := .tup []) nt).trans (Same.new (o := .lst [.int 0]) nb)).trans (Same.new (o := .lst (List.replicate (Int.toNat 6) [V.int 0]).flatten) nl)
      have ht := Same.new (o := .lst (List.replicate (Int.toNat 6) [V.int 0]).flatten) nl _ _ (Same.new (o := .lst [.int 0]) nb _ _ (upd_same (H := H1) (a := t) (o := .tup [])))
      have hl := upd_same (H := upd (upd H1 t (.tup [])) b (.lst [.int 0])) (a := l) (o := .lst (List.replicate (Int.toNat 6) [V.int 0]).flatten)
      have lh := ((s1.new (o := .tup []) nt).new (o := .lst [.int 0]) nb).ne nl
      have th := s1.ne nt
      generalize upd (upd (upd H1 t (.tup [])) b (.lst [.int 0])) l (.lst (List.replicate (Int.toNat 6) [V.int 0]).flatten) = H2 at s2 ht hl
      refine ⟨Evl.sz_of (show (5 : Nat) ≤ _ from by decide), fun p np => ?_⟩
      have sd := s1.same s2
      refine ⟨_, rfl, hd, _, rfl, sd.new np, by decide, by decide, fun r2 H4 r20 r21 s4 k4 => ?_⟩
      have hp := k4 _ _ (sd.ne np) upd_same
      have ht4 := ((Kh.new np).trans k4) _ _ th ht
      have hl4 := ((Kh.new np).trans k4) _ _ lh hl
      have kk : Kh hd.1 H H4 := ((k1.trans (Kh.of s2)).trans (Kh.new np)).trans k4
      obtain ⟨n, rfl⟩ := Int.eq_ofNat_of_zero_le r20
      have go : ∀ (v : V), (∀ H', Same H4 H' → AmtBad H' v 0 "many") → v ≠ .ref hd.1 → ([v, .int 0, .str "many"] : List V).length ≤ sizeLine ∧ ∀ q, H4 q = none → Q (.ref q) (upd H4 q (.lst [v, .int 0, .str "many"])) := fun v h1 h3 =>
        ⟨Evl.sz_of (show (3 : Nat) ≤ _ from by decide), fun q nq => k q v 0 "many" _ (s4.new nq) (kk.trans (Kh.new nq)) upd_same (.amt (h1 _ (Same.new nq))) h3 (s4.ne nq)⟩
      have hn : n = 0 ∨ n = 1 ∨ n = 2 ∨ n = 3 ∨ n = 4 := by omega
      rcases hn with e | e | e | e | e
      · subst e
        exact ⟨_, _, _, _, rfl, rfl, SqL.of hp, rfl, go _ (fun H' _ => .kind (t := "NoneType") rfl (by decide)) (fun z => nomatch z)⟩
      · subst e
        exact ⟨_, _, _, _, rfl, rfl, SqL.of hp, rfl, go (.ref t) (fun H' s => .many (b := true) (xs := []) (s _ _ ht4) (.inl (by decide))) (fun z => th (by injection z))⟩
      · subst e
        exact ⟨_, _, _, _, rfl, rfl, SqL.of hp, rfl, go _ (fun H' _ => .kind (t := "str") rfl (by decide)) (fun z => nomatch z)⟩
      · subst e
        exact ⟨_, _, _, _, rfl, rfl, SqL.of hp, rfl, go _ (fun H' _ => .kind (t := "int") rfl (by decide)) (fun z => nomatch z)⟩
      · subst e
        exact ⟨_, _, _, _, rfl, rfl, SqL.of hp, rfl, go (.ref l) (fun H' s => .many (b := false) (xs := (List.replicate (Int.toNat 6) [V.int 0]).flatten) (s _ _ hl4) (.inr (by decide))) (fun z => lh (by injection z))⟩
    refine ⟨_, rfl, rfl, _, rfl, ?_⟩
    refine if_eqI (fun c2 => ?_) fun c2 => ?_
    · refine ⟨_, rfl, _, rfl, u, _, rfl, .inr (SqT.of hu1), hd, _, rfl, s1, by rw [List.length_map]; omega, by rw [List.length_map]; omega, fun rn H2 n0 n1 s2 k2 => ?_⟩
      have hu2 := k2.tup s1 hu1
      have k02 := k1.trans k2
      obtain ⟨n, rfl⟩ := Int.eq_ofNat_of_zero_le n0
      rw [List.length_map] at n1
      have hn : n < W.length := by omega
      have hat : atI (W.map V.int) (n : Int) = some (.int W[n]) := atI_nat (by rw [List.getElem?_map, List.getElem?_eq_getElem hn] <;> rfl)
      obtain ⟨g0, g1⟩ := hw _ (List.getElem_mem hn)
      have hWs : W.take n ++ W[n] :: W.drop (n + 1) = W := by
        rw [← List.drop_eq_getElem_cons hn, List.take_append_drop]
      have hss : (W.take n).sum + (W[n] + (W.drop (n + 1)).sum) = W.sum := by
        have e := congrArg List.sum hWs
        rw [List.sum_append, List.sum_cons] at e
        exact e
      refine ⟨fun σ H4 => ∃ st : Int, σ = [some (.ref hd.1), some (.ref u), some (.int r), some (.int (n : Int)), some (.int st), none] ∧ (st = 1 ∧ W[n] = 0 ∨ st = -1 ∧ 1 ≤ W[n]) ∧ H4 = H2, ?_, ?_⟩
      · refine ⟨_, rfl, _, rfl, u, _, _, _, rfl, rfl, SqT.of hu2, hat, rfl, _, rfl, ?_⟩
        refine if_eqI (fun e => ?_) fun e => ?_
        · exact ⟨_, rfl, .inl ⟨rfl, e⟩, rfl⟩
        · exact ⟨_, rfl, _, rfl, .inr ⟨rfl, by omega⟩, rfl⟩
      · rintro σ H4 ⟨st, rfl, hst, rfl⟩
        refine ⟨_, rfl, _, rfl, _, rfl, slA_of hu2 fun p1 H3 s3 hp1 => ?_⟩
        rw [cut_map, cutI_to] at hp1
        have hu3 := s3 _ _ hu2
        refine ⟨_, rfl, _, rfl, u, _, _, _, rfl, rfl, SqT.of hu3, hat, _, rfl, _, _, rfl, rfl, Evl.sz_of (show (1 : Nat) ≤ _ from by decide), fun p2 np2 => ?_⟩
        refine catA_of (Same.new np2 _ _ hp1) upd_same (Evl.sz_of (by rw [List.length_map, List.length_take]; show min n W.length + 1 ≤ _; omega)) fun p3 H5 s5 hp3 => ?_
        have hu5 := s5 _ _ (Same.new (o := .tup [.int (W[n] + st)]) np2 _ _ hu3)
        refine ⟨_, rfl, _, rfl, _, _, rfl, rfl, _, rfl, ?_⟩
        unfold tNoPart
        refine slA_of hu5 fun p4 H6 s6 hp4 => ?_
        rw [cut_map, show ((n : Int) + 1) = ((n + 1 : Nat) : Int) by omega, cutI_from] at hp4
        refine catA_of (s6 _ _ hp3) hp4 (Evl.sz_of (by rw [List.length_append, List.length_map, List.length_take, List.length_map, List.length_drop]; show min n W.length + 1 + (W.length - (n + 1)) ≤ _; omega)) fun p5 H7 s7 hp5 => ?_
        have hu7 := s7 _ _ (s6 _ _ hu5)
        have s27 := (((s3.trans (Same.new (o := .tup [.int (W[n] + st)]) np2)).trans s5).trans s6).trans s7
        have st7 := s2.same s27
        refine ⟨_, rfl, u, _, rfl, .inr (SqT.of hu7), Evl.sz_of (show (3 : Nat) ≤ _ from by decide), fun z nz => ?_⟩
        have eV : (W.take n).map V.int ++ [.int (W[n] + st)] ++ (W.drop (n + 1)).map V.int = (W.take n ++ (W[n] + st) :: W.drop (n + 1)).map V.int := by
          rw [List.map_append, List.map_cons, List.append_assoc]
          rfl
        rw [eV] at hp5
        have eL : (W.take n ++ (W[n] + st) :: W.drop (n + 1)).length = W.length := by
          rw [List.length_append, List.length_cons, List.length_take, List.length_drop]
          omega
        have p5h := st7.tupl hp5
        refine k z (.ref p5) _ "sum" _ (st7.new nz) ((k02.trans (Kh.of s27)).trans (Kh.new nz)) upd_same ?_ (fun e => p5h (by injection e)) (st7.ne nz)
        rw [List.length_map, ← eL]
        refine .sum ⟨p5, true, rfl, Same.new nz _ _ hp5, by rw [eL]; omega, by rw [eL]; omega, fun c hc => ?_⟩ ?_
        · rcases List.mem_append.mp hc with h1 | h1
          · have := hw c (List.mem_of_mem_take h1)
            omega
          · rcases List.mem_cons.mp h1 with h1 | h1
            · omega
            · have := hw c (List.mem_of_mem_drop h1)
              omega
        · rw [List.sum_append, List.sum_cons]
          omega
    · refine ⟨_, rfl, _, rfl, u, _, rfl, .inr (SqT.of hu1), hd, _, rfl, s1, by rw [List.length_map]; omega, by rw [List.length_map]; omega, fun rn H2 n0 n1 s2 k2 => ?_⟩
      have hu2 := k2.tup s1 hu1
      have k02 := k1.trans k2
      obtain ⟨n, rfl⟩ := Int.eq_ofNat_of_zero_le n0
      rw [List.length_map] at n1
      have hn : n < W.length := by omega
      refine ⟨fun σ H4 => ∃ (v : V) (ty : String), σ = [some (.ref hd.1), some (.ref u), some (.int r), some (.int (n : Int)), none, some v] ∧ tyS H4 v = some ty ∧ wholeB 0 12000000000 v = false ∧ St hd H4 ∧ Kh hd.1 H H4, ?_, ?_⟩
      · walk_at "rd"
        refine ⟨Evl.sz_of (show (1 : Nat) ≤ _ from by decide), fun t nt => ⟨Evl.sz_of (show (6 : Nat) ≤ _ from by decide), fun p np => ?_⟩⟩
        have s3 := (s2.new (o := .tup [.int 0]) nt)
        have ht : upd H2 t (.tup [.int 0]) t = some (.tup [.int 0]) := upd_same
        have k3 : Kh hd.1 H (upd H2 t (.tup [.int 0])) := k02.trans (Kh.new nt)
        generalize upd H2 t (.tup [.int 0]) = H3 at np s3 ht k3
        refine ⟨_, rfl, hd, _, rfl, s3.new np, by decide, by decide, fun r2 H4 r20 r21 s4 k4 => ?_⟩
        have hp := k4 _ _ (s3.ne np) upd_same
        have th := s3.tupl ht
        have ht4 := ((Kh.new np).trans k4) _ _ th ht
        have kk : Kh hd.1 H H4 := (k3.trans (Kh.new np)).trans k4
        obtain ⟨j, rfl⟩ := Int.eq_ofNat_of_zero_le r20
        have hn : j = 0 ∨ j = 1 ∨ j = 2 ∨ j = 3 ∨ j = 4 ∨ j = 5 := by omega
        rcases hn with e | e | e | e | e | e
        · subst e
          exact ⟨_, _, _, _, rfl, rfl, SqL.of hp, rfl, _, "int", rfl, rfl, by decide, s4, kk⟩
        · subst e
          exact ⟨_, _, _, _, rfl, rfl, SqL.of hp, rfl, _, "bool", rfl, rfl, by decide, s4, kk⟩
        · subst e
          exact ⟨_, _, _, _, rfl, rfl, SqL.of hp, rfl, _, "str", rfl, rfl, by rfl, s4, kk⟩
        · subst e
          exact ⟨_, _, _, _, rfl, rfl, SqL.of hp, rfl, _, "NoneType", rfl, rfl, by rfl, s4, kk⟩
        · subst e
          exact ⟨_, _, _, _, rfl, rfl, SqL.of hp, rfl, _, "int", rfl, rfl, by decide +kernel, s4, kk⟩
        · subst e
          refine ⟨_, _, _, _, rfl, rfl, SqL.of hp, rfl, _, "tuple", rfl, ?_, by rfl, s4, kk⟩
          show kindO (H4 t) = _
          rw [ht4]
          rfl
      · rintro σ H4 ⟨v, ty, rfl, ht, hwv, s4, k4⟩
        have hu4 := k4.tup hs hu
        refine ⟨_, rfl, _, rfl, _, rfl, slA_of hu4 fun p1 H5 s5 hp1 => ?_⟩
        rw [cut_map, cutI_to] at hp1
        refine ⟨p1, _, rfl, .inr (SqT.of hp1), fun l1 nl1 => ?_⟩
        have s6 : Same H4 (upd H5 l1 (.lst ((W.take n).map V.int))) := s5.trans (Same.new nl1)
        have hl1 : upd H5 l1 (.lst ((W.take n).map V.int)) l1 = some (.lst ((W.take n).map V.int)) := upd_same
        generalize upd H5 l1 (.lst ((W.take n).map V.int)) = H6 at s6 hl1
        refine ⟨_, rfl, Evl.sz_of (show (1 : Nat) ≤ _ from by decide), fun q2 nq2 => ?_⟩
        refine ⟨l1, q2, _, _, rfl, rfl, Same.new nq2 _ _ hl1, upd_same, Evl.sz_of (by rw [List.length_map, List.length_take]; show min n W.length + 1 ≤ _; omega), fun q3 nq3 => ?_⟩
        have s7 := (s6.trans (Same.new (o := .lst [v]) nq2)).trans (Same.new (o := .lst ((W.take n).map V.int ++ [v])) nq3)
        have hq3 := upd_same (H := upd H6 q2 (.lst [v])) (a := q3) (o := .lst ((W.take n).map V.int ++ [v]))
        generalize upd (upd H6 q2 (.lst [v])) q3 (.lst ((W.take n).map V.int ++ [v])) = H7 at s7 hq3
        have hu7 := s7 _ _ hu4
        refine ⟨_, rfl, _, rfl, _, _, rfl, rfl, _, rfl, ?_⟩
        unfold tNoPart
        refine slA_of hu7 fun p4 H8 s8 hp4 => ?_
        rw [cut_map, show ((n : Int) + 1) = ((n + 1 : Nat) : Int) by omega, cutI_from] at hp4
        refine ⟨p4, _, rfl, .inr (SqT.of hp4), fun l2 nl2 => ?_⟩
        have s9 := (s7.trans s8).trans (Same.new (o := .lst ((W.drop (n + 1)).map V.int)) nl2)
        refine ⟨q3, l2, _, _, rfl, rfl, Same.new nl2 _ _ (s8 _ _ hq3), upd_same, Evl.sz_of (by rw [List.length_append, List.length_map, List.length_take, List.length_map, List.length_drop]; show min n W.length + 1 + (W.length - (n + 1)) ≤ _; omega), fun q5 nq5 => ?_⟩
        have s10 := s9.trans (Same.new (o := .lst ((W.take n).map V.int ++ [v] ++ (W.drop (n + 1)).map V.int)) nq5)
        have q5h := (s4.same s9).ne nq5
        refine ⟨_, rfl, Evl.sz_of (show (3 : Nat) ≤ _ from by decide), fun z nz => ?_⟩
        have s11 := s10.trans (Same.new (o := .lst [.ref q5, .int (n : Int), .str "number"]) nz)
        have etl : (W.take n).length = n := by rw [List.length_take]; omega
        refine k z (.ref q5) _ "number" _ (s4.same s11) (k4.trans (Kh.of s11)) upd_same (.amt ?_) (fun e => q5h (by injection e)) ((s4.same s10).ne nz)
        have el : ((W.take n).map V.int ++ [v] ++ (W.drop (n + 1)).map V.int).length = W.length := by
          rw [List.length_append, List.length_append, List.length_map, List.length_take, List.length_map, List.length_drop]
          show min n W.length + 1 + (W.length - (n + 1)) = W.length
          omega
        refine .numb (b := false) (i := n) (y := v) (t := ty) (Same.new nz _ _ upd_same) (by rw [el]; exact w1) (by rw [el]; exact w5) (fun j y hj hy => ?_) ?_ (tyS_same s11 ht) hwv
        · obtain ⟨c, hc', rfl⟩ := odd_before (by rw [etl]; exact hj) hy
          have := hw c (List.mem_of_mem_take hc')
          exact ⟨c, rfl, by omega, by omega⟩
        · have e := odd_at (W.take n) ((W.drop (n + 1)).map V.int) v
          rw [etl] at e
          exact e
end
end K12

set_option Elab.async false
set_option linter.all false
set_option maxRecDepth 100000
set_option maxHeartbeats 8000000
/-! The doors. -/
namespace K12
open PySem PySem.Spec PyProof.Rows L2 K12L Hand RZ NdefX LamX
local macro_rules | `(tactic| walk_at "rd") => `(tactic| repeat (first | (with_reducible exact trivial) | refine ⟨_, rfl, ?_⟩ | refine ⟨_, _, rfl, rfl, ?_⟩ | refine Or.inl ⟨_, rfl, ?_⟩ | refine ⟨Or.inr ⟨by decide, by decide⟩, ?_⟩ | refine ⟨Or.inl ⟨by omega, by omega⟩, ?_⟩ | refine ⟨⟨by decide, by decide +kernel⟩, ?_⟩ | refine ⟨(show (0 : Int) < _ from by decide), ?_⟩ | refine ⟨(show (0 : Int) < _ from by omega), ?_⟩ | refine ⟨cdivW (by omega) (by omega), ?_⟩ | refine ⟨_, _, _, _, rfl, rfl, SqL.of (by first | assumption | exact upd_same), by rfl, ?_⟩ | refine ⟨_, _, _, _, rfl, rfl, (by first | assumption | exact upd_same), by rfl, ?_⟩ | refine ⟨_, _, rfl, Or.inl (SqL.of (by first | assumption | exact upd_same)), ?_⟩ | refine ⟨Or.inl ⟨rfl, _, SqL.of (by first | assumption | exact upd_same)⟩, ?_⟩ | refine ⟨_, _, _, rfl, rfl, (by first | assumption | exact upd_same), (Evl.sz_lt (by first | omega | (simp only [List.length_map]; omega))), ?_⟩ | refine ⟨rfl, ?_⟩))
/-- all but the hand and the tables is as it was -/
def Kt (hd : Addr) (H H' : Hp) : Prop := ∀ b o, b ≠ hd → H b = some o → (∀ ps, o ≠ .tbl ps) → H' b = some o
theorem Kt.refl (hd : Addr) (H : Hp) : Kt hd H H := fun _ _ _ e _ => e
theorem Kt.trans {hd : Addr} {H H1 H2 : Hp} (a : Kt hd H H1) (b : Kt hd H1 H2) : Kt hd H H2 := fun c o n e z => b c o n (a c o n e z) z
theorem Kt.kh {hd : Addr} {H H' : Hp} (k : Kh hd H H') : Kt hd H H' := fun b o n e _ => k b o n e
theorem Kt.ext {hd : Addr} {H H' : Hp} (k : ExtN H H') : Kt hd H H' := fun b o _ e z => k b o e z
theorem Kt.same {hd : Addr} {H H' : Hp} (k : Same H H') : Kt hd H H' := fun b o _ e z => k b o e
theorem Kt.lst {hd : Addr} {H H' : Hp} {a : Addr} {xs : List V} (k : Kt hd H H') (n : a ≠ hd) (e : H a = some (.lst xs)) : H' a = some (.lst xs) := k a _ n e (fun ps z => by cases z)
theorem Kt.tup {hd : Addr} {H H' : Hp} {a : Addr} {xs : List V} (k : Kt hd H H') (n : a ≠ hd) (e : H a = some (.tup xs)) : H' a = some (.tup xs) := k a _ n e (fun ps z => by cases z)
theorem SqH.kt {hd : Addr} {b : Bool} {H H' : Hp} {a : Addr} {xs : List V} (h : SqH b H a xs) (k : Kt hd H H') (n : a ≠ hd) : SqH b H' a xs := by
  cases b with
  | true => exact k.tup n h
  | false => exact k.lst n h
theorem St.ext {hd : Hd} {H H' : Hp} (s : St hd H) (k : ExtN H H') : St hd H' := by
  obtain ⟨cells, pos, left, mixed, h1, h2, r⟩ := s
  exact ⟨cells, pos, left, mixed, k _ _ h1 (fun ps z => by cases z), k _ _ h2 (fun ps z => by cases z), r⟩
theorem tt_kh {T : List NTab} {hd : Hd} {H H' : Hp} (t : TabsN T H) (s : St hd H) (k : Kh hd.1 H H') : TabsN T H' := by
  obtain ⟨_, _, _, _, h1, _⟩ := s
  exact tabs_old t h1 k
theorem ext_none {T : List NTab} {H H' : Hp} (k : ExtN H H') {p : Addr} (n : H' p = none) : H p = none ∨ ∃ ps, H p = some (.tbl ps) := by
  cases e : H p with
  | none => exact .inl rfl
  | some o =>
    by_cases ht : ∃ ps, o = .tbl ps
    · obtain ⟨ps, rfl⟩ := ht
      exact .inr ⟨ps, rfl⟩
    · rw [k p o e (fun ps z => ht ⟨ps, z⟩)] at n
      cases n
theorem PoolBad.lay {H : Hp} {x : V} {i : Int} {y : Str} (h : PoolBad H x i y) : (PyData.str y).canLay0 = true := by
  cases h <;> decide +kernel
theorem AmtBad.lay {H : Hp} {x : V} {i : Int} {y : Str} (h : AmtBad H x i y) : (PyData.str y).canLay0 = true := by
  cases h <;> decide +kernel
theorem WishBad.lay {H : Hp} {x : V} {t i : Int} {y : Str} (h : WishBad H t x i y) : (PyData.str y).canLay0 = true := by
  cases h with
  | amt h => exact h.lay
  | sum _ _ => decide +kernel
def d3 (a : Str) (i : Int) (b : Str) : PyData := .list [.str a, .int i, .str b]
theorem fl_d3 {a b : Str} {i : Int} (ca : (PyData.str a).canLay0 = true) (cb : (PyData.str b).canLay0 = true) : Fl 1 (d3 a i b) := by
  refine Fl.list fun x hx => ?_
  rcases List.mem_cons.mp hx with e | hx
  · rw [e]
    exact ⟨ca, Nat.zero_le _⟩
  rcases List.mem_cons.mp hx with e | hx
  · rw [e]
    exact Fl.int _
  · rw [List.mem_singleton.mp hx]
    exact ⟨cb, Nat.zero_le _⟩
theorem dp_d3 {K : PySem.W.Frag} {H : Hp} {p : Addr} {a b : Str} {i : Int} (h : H p = some (.lst [.str a, .int i, .str b])) : Dp K H (.ref p) (d3 a i b) := .lst (SqL.of h) (.cons (.str _) (.cons (.int _) (.cons (.str _) .nil)))
theorem ne3 {K : PySem.W.Frag} {H : Hp} {p q : Addr} {a b : Str} {i : Int} {Q : VK} (hp : H p = some (.lst [.str a, .int i, .str b])) (hq : H q = some (.lst [.str a, .int i, .str b])) (ca : (PyData.str a).canLay0 = true) (cb : (PyData.str b).canLay0 = true) (h : Q (.bl false) H) : rNeD K (.ref p) (.ref q) H Q := by
  refine ⟨d3 a i b, d3 a i b, dp_d3 hp, dp_d3 hq, (fl_d3 ca cb).shaped (by decide), (fl_d3 ca cb).shaped (by decide), ?_⟩
  rw [SeqAt.eqv_refl _ (fl_d3 ca cb).1]
  exact h
theorem eq1 {K : PySem.W.Frag} {H : Hp} {p q : Addr} {a : Str} {Q : VK} (hp : H p = some (.lst [.str a])) (hq : H q = some (.lst [.str a])) (ca : (PyData.str a).canLay0 = true) (h : Q (.bl true) H) : rEqD K (.ref p) (.ref q) H Q := by
  have fl : Fl 1 (PyData.list [.str a]) := Fl.list fun x hx => by
    rw [List.mem_singleton.mp hx]
    exact ⟨ca, Nat.zero_le _⟩
  refine ⟨.list [.str a], .list [.str a], .lst (SqL.of hp) (.cons (.str _) .nil), .lst (SqL.of hq) (.cons (.str _) .nil), fl.shaped (by decide), fl.shaped (by decide), ?_⟩
  rw [SeqAt.eqv_refl _ fl.1]
  exact h
theorem ne0 {K : PySem.W.Frag} {H : Hp} {p q : Addr} {Q : VK} (hp : H p = some (.lst [])) (hq : H q = some (.lst [])) (h : Q (.bl false) H) : rNeD K (.ref p) (.ref q) H Q := by
  have fl : Fl 1 (PyData.list []) := Fl.list fun x hx => by simp at hx
  refine ⟨.list [], .list [], .lst (SqL.of hp) .nil, .lst (SqL.of hq) .nil, fl.shaped (by decide), fl.shaped (by decide), ?_⟩
  rw [SeqAt.eqv_refl _ fl.1]
  exact h
section
variable {P : Program} {w : World} {K : PySem.W.Frag} {mg : Str → Option Value} {base : Heap} {Pr Pa Pd : Addr}
/-- what both parts get: the pool as it was handed, the coins, the wish -/
structure Given (H : Hp) (hd : Hd) (h a u : Addr) (ns cs W : List Int) : Prop where
  pool : PoolOk H (.ref h) ns
  perm : cs.Perm ns
  asc : cs.Pairwise (· ≤ ·)
  hh : h ≠ hd.1
  ha : H a = some (.lst (cs.map V.int))
  hu : H u = some (.tup (W.map V.int))
  len : cs.length ≤ 12
  cin : In 1 1000000000 cs
  w1 : 1 ≤ W.length
  w5 : W.length ≤ 5
  wnn : ∀ c ∈ W, 0 ≤ c
  sum : W.sum = cs.sum
theorem PoolOk.kt {hd : Addr} {H H' : Hp} {h : Addr} {ns : List Int} (p : PoolOk H (.ref h) ns) (k : Kt hd H H') (n : h ≠ hd) : PoolOk H' (.ref h) ns := by
  obtain ⟨a, b, e, hs, r⟩ := p
  injection e with e
  subst e
  exact ⟨_, b, rfl, hs.kt k n, r⟩
theorem Given.kt {H H' : Hp} {hd : Hd} {h a u : Addr} {ns cs W : List Int} (g : Given H hd h a u ns cs W) (s : St hd H) (k : Kt hd.1 H H') : Given H' hd h a u ns cs W :=
  ⟨g.pool.kt k g.hh, g.perm, g.asc, g.hh, k.lst (s.ints g.ha) g.ha, k.tup (s.tupl g.hu) g.hu, g.len, g.cin, g.w1, g.w5, g.wnn, g.sum⟩
theorem Given.wle {H : Hp} {hd : Hd} {h a u : Addr} {ns cs W : List Int} (g : Given H hd h a u ns cs W) : W.sum ≤ 12000000000 := by
  have h1 := In.sum g.cin
  have h2 := g.len
  rw [g.sum]
  omega
theorem Given.wc {H : Hp} {hd : Hd} {h a u : Addr} {ns cs W : List Int} (g : Given H hd h a u ns cs W) : ∀ c ∈ W, 0 ≤ c ∧ c ≤ 12000000000 := fun c hc => ⟨g.wnn c hc, Int.le_trans (Hand.le_sum W g.wnn c hc) g.wle⟩
def spDoors (Pr Pa Pd : Addr) : Sp := fun vs H Q _ => ∃ (hd : Hd) (h a u : Addr) (ns cs W : List Int), vs = [.ref hd.1, .ref h, .ref a, .ref u] ∧ St hd H ∧ TabsN (TT Pr Pa Pd) H ∧ Given H hd h a u ns cs W ∧
  ∀ H', St hd H' → TabsN (TT Pr Pa Pd) H' → Kt hd.1 H H' → Q (.bl true) H'
theorem h_l_doors (T : Txt K mg) (R : Ers P K mg) (C : Cts K mg) (Tb : Tbl K mg base Pr Pa Pd) : Has P w K mg base CX0 10 "_law_doors" P_l_doors (spDoors Pr Pa Pd) := by
  obtain ⟨f, fd, g, F⟩ := T.dfn ("_law_doors", 59) (by decide +kernel)
  have h_l_take := h_l_take (P := P) (w := w) (base := base) T
  have h_l_wrong_pool := h_l_wrong_pool (P := P) (w := w) (base := base) T
  have h_l_wrong_wish := h_l_wrong_wish (P := P) (w := w) (base := base) T
  have h_l_door := h_l_door (w := w) T R C Tb
  refine ⟨f, fd, g, F.kp, F.bindsN (fun _ _ _ _ _ _ us hl => match us, hl with | [_, _, _, _], _ => rfl), F.ok sc_l_doors (fun vs H Q E h => ?_) fun cdv A outer s H vs Q E hr h => ?_⟩
  · obtain ⟨_, _, _, _, _, _, _, rfl, _⟩ := h
    rfl
  · obtain ⟨hd, h, a, u, ns, cs, W, rfl, hs, hT, G, k⟩ := h
    refine ⟨_, PSs.nox (pss_cons (ps_asg (pe_has h_l_wrong_pool hr (by decide) (pa_cons (pv 0) (pa_cons (pv 2) pa_nil))) (pg_lst rfl (pgs_cons (pg_name (i := 4) sc_l_doors.nd rfl (Or.inl rfl)) (pgs_cons (pg_name (i := 5) sc_l_doors.nd rfl (Or.inl rfl)) (pgs_cons (pg_name (i := 6) sc_l_doors.nd rfl (Or.inl rfl)) pgs_nil)))))
  (pss_cons (ps_asg (pe_has h_l_wrong_wish hr (by decide) (pa_cons (pv 0) (pa_cons (pv 3) pa_nil))) (pg_lst rfl (pgs_cons (pg_name (i := 7) sc_l_doors.nd rfl (Or.inl rfl)) (pgs_cons (pg_name (i := 8) sc_l_doors.nd rfl (Or.inl rfl)) (pgs_cons (pg_name (i := 9) sc_l_doors.nd rfl (Or.inl rfl)) pgs_nil)))))
  (Evl.pss_cut (ps_set (i := 10) sc_l_doors.nd rfl (Or.inl rfl) (pe_ix ix_list (pe_lst (pa_cons pe_int (pa_cons pe_int (pa_cons (pe_un un_neg pe_int) (pa_cons pe_non (pa_cons pe_bl (pa_cons pe_str pa_nil))))))) (pe_has h_l_take hr (by decide) (pa_cons (pv 0) (pa_cons pe_int pa_nil))) (fun _ _ => rfl)))
  (pss_cons (ps_set (i := 11) sc_l_doors.nd rfl (Or.inl rfl) (pe_lst pa_nil))
  (pss_cons (ps_if (PW.pt (pw_or (pt_cmpR (op_neD hr.units) (pe_has h_l_door hr (by decide) (pa_cons pe_int (pa_cons (pv 4) (pa_cons (pv 7) (pa_cons (pv 11) pa_nil))))) (pe_lst (pa_cons pe_str (pa_cons (pv 5) (pa_cons (pv 6) pa_nil)))) (nomark _)) (pw_or1 (pt_cmpR (op_neD hr.units) (pe_has h_l_door hr (by decide) (pa_cons pe_int (pa_cons (pv 4) (pa_cons (pv 3) (pa_cons (pv 11) pa_nil))))) (pe_lst (pa_cons pe_str (pa_cons (pv 5) (pa_cons (pv 6) pa_nil)))) (nomark _)))))
    (pss_one (ps_ret pe_bl))
    pss_nil)
  (pss_cons (ps_if (PW.pt (pw_or (pt_cmpR (op_neD hr.units) (pe_has h_l_door hr (by decide) (pa_cons pe_int (pa_cons (pv 1) (pa_cons (pv 7) (pa_cons (pv 11) pa_nil))))) (pe_lst (pa_cons pe_str (pa_cons (pv 8) (pa_cons (pv 9) pa_nil)))) (nomark _)) (pw_or1 (pt_cmpR (op_neD hr.units) (pv 11) (pe_lst pa_nil) (nomark _)))))
    (pss_one (ps_ret pe_bl))
    pss_nil)
  (pss_cons (ps_if (PW.pt (pw_or (pt_cmpR (op_neD hr.units) (pe_has h_l_door hr (by decide) (pa_cons pe_int (pa_cons (pv 4) (pa_cons (pv 10) (pa_cons (pv 11) pa_nil))))) (pe_lst (pa_cons pe_str (pa_cons (pv 5) (pa_cons (pv 6) pa_nil)))) (nomark _)) (pw_or1 (pt_cmpR (op_neD hr.units) (pe_has h_l_door hr (by decide) (pa_cons pe_int (pa_cons (pv 4) (pa_cons pe_int (pa_cons (pv 11) pa_nil))))) (pe_lst (pa_cons pe_str (pa_cons (pv 5) (pa_cons (pv 6) pa_nil)))) (nomark _)))))
    (pss_one (ps_ret pe_bl))
    pss_nil)
  (pss_one (ps_ret (pe_cmpR (op_eqD hr.units) (pe_has h_l_door hr (by decide) (pa_cons pe_int (pa_cons (pv 1) (pa_cons (pv 10) (pa_cons (pv 11) pa_nil))))) (pe_lst (pa_cons pe_str pa_nil)) (nomark _)))))))))))
    , ?_⟩
    refine ⟨_, rfl, _, rfl, hd, a, cs, rfl, hs, G.ha, G.len, G.cin, fun p1 x pl what H1 np1 s1 k1 hp1 pb xh p1h => ?_⟩
    have T1 := tt_kh hT hs k1
    have G1 := G.kt hs (Kt.kh k1)
    refine ⟨p1, _, rfl, SqL.of hp1, rfl, _, _, rfl, _, _, rfl, _, _, rfl, rfl, ?_⟩
    refine ⟨_, rfl, _, rfl, hd, u, W, rfl, s1, G1.hu, G.w1, G.w5, (fun c hc => ⟨(G.wc c hc).1, Int.lt_add_one_of_le (G.wc c hc).2⟩), Int.lt_add_one_of_le G.wle, fun p2 y pl2 what2 H2 s2 k2 hp2 wb yh p2h => ?_⟩
    have T2 := tt_kh T1 s1 k2
    have G2 := G1.kt s1 (Kt.kh k2)
    have pb2 := pb.kh xh s1 s2 k2
    have kt2 : Kt hd.1 H H2 := (Kt.kh k1).trans (Kt.kh k2)
    refine ⟨p2, _, rfl, SqL.of hp2, rfl, _, _, rfl, _, _, rfl, _, _, rfl, rfl, ?_⟩
    refine ⟨fun σ H3 => ∃ (v : V) (ty : String), σ = [some (.ref hd.1), some (.ref h), some (.ref a), some (.ref u), some x, some (.int pl), some (.str what), some y, some (.int pl2), some (.str what2), some v, none] ∧ tyS H3 v = some ty ∧ wholeB 1 5 v = false ∧ St hd H3 ∧ Kh hd.1 H2 H3, ?_, ?_⟩
    · refine ⟨_, rfl, Evl.sz_of (show (6 : Nat) ≤ _ from by decide), fun p np => ?_⟩
      refine ⟨_, rfl, hd, _, rfl, s2.new np, by decide, by decide, fun r2 H4 r20 r21 s4 k4 => ?_⟩
      have hp := k4 _ _ (s2.ne np) upd_same
      have kk : Kh hd.1 H2 H4 := (Kh.new np).trans k4
      obtain ⟨j, rfl⟩ := Int.eq_ofNat_of_zero_le r20
      have hn : j = 0 ∨ j = 1 ∨ j = 2 ∨ j = 3 ∨ j = 4 ∨ j = 5 := by omega
      rcases hn with e | e | e | e | e | e
      · subst e
        exact ⟨_, _, _, _, rfl, rfl, SqL.of hp, rfl, _, "int", rfl, rfl, by decide, s4, kk⟩
      · subst e
        exact ⟨_, _, _, _, rfl, rfl, SqL.of hp, rfl, _, "int", rfl, rfl, by decide, s4, kk⟩
      · subst e
        exact ⟨_, _, _, _, rfl, rfl, SqL.of hp, rfl, _, "int", rfl, rfl, by decide, s4, kk⟩
      · subst e
        exact ⟨_, _, _, _, rfl, rfl, SqL.of hp, rfl, _, "NoneType", rfl, rfl, by rfl, s4, kk⟩
      · subst e
        exact ⟨_, _, _, _, rfl, rfl, SqL.of hp, rfl, _, "bool", rfl, rfl, by decide, s4, kk⟩
      · subst e
        exact ⟨_, _, _, _, rfl, rfl, SqL.of hp, rfl, _, "str", rfl, rfl, by rfl, s4, kk⟩
    · rintro σ H3 ⟨v, ty, rfl, hty, hv, s3, k3⟩
      have T3 := tt_kh T2 s2 k3
      have G3 := G2.kt s2 (Kt.kh k3)
      have pb3 := pb2.kh xh s2 s3 k3
      have wb3 := wb.kh yh s2 s3 k3
      have kt3 : Kt hd.1 H H3 := kt2.trans (Kt.kh k3)
      refine ⟨Evl.sz_of (show (0 : Nat) ≤ _ from by decide), fun C nC => ?_⟩
      have sC : Same H3 (upd H3 C (.lst [])) := Same.new nC
      have hC := upd_same (H := H3) (a := C) (o := .lst [])
      have T4 := T3.ext sC
      have s4 := s3.same sC
      have G4 := G3.kt s3 (Kt.same sC)
      have pb4 := pb3.ext (ExtN.of sC)
      have wb4 := wb3.ext (ExtN.of sC)
      have hty4 := tyS_same sC hty
      have kt4 : Kt hd.1 H _ := kt3.trans (Kt.same sC)
      have lp := pb.lay
      have lw := wb.lay
      have wsum : ns.sum = W.sum := by rw [G.sum, sum_perm G.perm]
      generalize upd H3 C (.lst []) = H4 at hC T4 s4 G4 pb4 wb4 hty4 kt4
      refine ⟨_, rfl, _, rfl, _, rfl, 0, _, _, _, rfl, T4, .inl ⟨pl, what, pb4, fun q4 D4 e4 U4 hq4 => ?_⟩⟩
      refine ⟨_, rfl, _, rfl, Evl.sz_of (show (3 : Nat) ≤ _ from by decide), fun r4 nr4 => ?_⟩
      have z4 : Same D4 (upd D4 r4 (.lst [.str "pool", .int pl, .str what])) := Same.new nr4
      have hr4 := upd_same (H := D4) (a := r4) (o := .lst [.str "pool", .int pl, .str what])
      have hqq4 := z4 _ _ hq4
      have ee4 := e4.trans (ExtN.of z4)
      have T5 := U4.ext z4
      have s5 := s4.ext ee4
      have G5 := G4.kt s4 (Kt.ext ee4)
      have pb5 := pb4.ext ee4
      have wb5 := wb4.ext ee4
      have hty5 := tyS_ext hty4 ee4
      have hC5 := ee4 _ _ hC (fun ps z => by cases z)
      have kt5 := kt4.trans (Kt.ext ee4)
      generalize upd D4 r4 (.lst [.str "pool", .int pl, .str what]) = H5 at hr4 hqq4 T5 s5 G5 pb5 wb5 hty5 hC5 kt5
      refine ne3 hqq4 hr4 (by decide +kernel) lp ⟨_, rfl, ?_⟩
      refine ⟨_, rfl, _, rfl, _, rfl, 0, _, _, _, rfl, T5, .inl ⟨pl, what, pb5, fun q5 D5 e5 U5 hq5 => ?_⟩⟩
      refine ⟨_, rfl, _, rfl, Evl.sz_of (show (3 : Nat) ≤ _ from by decide), fun r5 nr5 => ?_⟩
      have z5 : Same D5 (upd D5 r5 (.lst [.str "pool", .int pl, .str what])) := Same.new nr5
      have hr5 := upd_same (H := D5) (a := r5) (o := .lst [.str "pool", .int pl, .str what])
      have hqq5 := z5 _ _ hq5
      have ee5 := e5.trans (ExtN.of z5)
      have T6 := U5.ext z5
      have s6 := s5.ext ee5
      have G6 := G5.kt s5 (Kt.ext ee5)
      have pb6 := pb5.ext ee5
      have wb6 := wb5.ext ee5
      have hty6 := tyS_ext hty5 ee5
      have hC6 := ee5 _ _ hC5 (fun ps z => by cases z)
      have kt6 := kt5.trans (Kt.ext ee5)
      generalize upd D5 r5 (.lst [.str "pool", .int pl, .str what]) = H6 at hr5 hqq5 T6 s6 G6 pb6 wb6 hty6 hC6 kt6
      refine ne3 hqq5 hr5 (by decide +kernel) lp ⟨_, rfl, ?_⟩
      refine ⟨_, rfl, _, rfl, _, rfl, 0, _, _, _, rfl, T6, .inr (.inl ⟨ns, pl2, what2, rfl, G6.pool, by rw [wsum]; exact wb6, fun q6 D6 e6 U6 hq6 => ?_⟩)⟩
      refine ⟨_, rfl, _, rfl, Evl.sz_of (show (3 : Nat) ≤ _ from by decide), fun r6 nr6 => ?_⟩
      have z6 : Same D6 (upd D6 r6 (.lst [.str "wish", .int pl2, .str what2])) := Same.new nr6
      have hr6 := upd_same (H := D6) (a := r6) (o := .lst [.str "wish", .int pl2, .str what2])
      have hqq6 := z6 _ _ hq6
      have ee6 := e6.trans (ExtN.of z6)
      have T7 := U6.ext z6
      have s7 := s6.ext ee6
      have G7 := G6.kt s6 (Kt.ext ee6)
      have pb7 := pb6.ext ee6
      have wb7 := wb6.ext ee6
      have hty7 := tyS_ext hty6 ee6
      have hC7 := ee6 _ _ hC6 (fun ps z => by cases z)
      have kt7 := kt6.trans (Kt.ext ee6)
      generalize upd D6 r6 (.lst [.str "wish", .int pl2, .str what2]) = H7 at hr6 hqq6 T7 s7 G7 pb7 wb7 hty7 hC7 kt7
      refine ne3 hqq6 hr6 (by decide +kernel) lw ⟨_, rfl, ?_⟩
      refine ⟨_, rfl, Evl.sz_of (show (0 : Nat) ≤ _ from by decide), fun b7 nb7 => ?_⟩
      have z7 : Same H7 (upd H7 b7 (.lst [])) := Same.new nb7
      have hb7 := upd_same (H := H7) (a := b7) (o := .lst [])
      have hCC := z7 _ _ hC7
      have T8 := T7.ext z7
      have s8 := s7.same z7
      have G8 := G7.kt s7 (Kt.same z7)
      have pb8 := pb7.ext (ExtN.of z7)
      have wb8 := wb7.ext (ExtN.of z7)
      have hty8 := tyS_same z7 hty7
      have kt8 := kt7.trans (Kt.same z7)
      generalize upd H7 b7 (.lst []) = H8 at hb7 hCC T8 s8 G8 pb8 wb8 hty8 kt8
      refine ne0 hCC hb7 ⟨_, rfl, ?_⟩
      refine ⟨_, rfl, _, rfl, _, rfl, 1, _, _, _, rfl, T8, .inl ⟨pl, what, pb8, fun q8 D8 e8 U8 hq8 => ?_⟩⟩
      refine ⟨_, rfl, _, rfl, Evl.sz_of (show (3 : Nat) ≤ _ from by decide), fun r8 nr8 => ?_⟩
      have z8 : Same D8 (upd D8 r8 (.lst [.str "pool", .int pl, .str what])) := Same.new nr8
      have hr8 := upd_same (H := D8) (a := r8) (o := .lst [.str "pool", .int pl, .str what])
      have hqq8 := z8 _ _ hq8
      have ee8 := e8.trans (ExtN.of z8)
      have T9 := U8.ext z8
      have s9 := s8.ext ee8
      have G9 := G8.kt s8 (Kt.ext ee8)
      have pb9 := pb8.ext ee8
      have wb9 := wb8.ext ee8
      have hty9 := tyS_ext hty8 ee8
      have kt9 := kt8.trans (Kt.ext ee8)
      generalize upd D8 r8 (.lst [.str "pool", .int pl, .str what]) = H9 at hr8 hqq8 T9 s9 G9 pb9 wb9 hty9 kt9
      refine ne3 hqq8 hr8 (by decide +kernel) lp ⟨_, rfl, ?_⟩
      refine ⟨_, rfl, _, rfl, 1, _, _, _, rfl, T9, .inl ⟨pl, what, pb9, fun q9 D9 e9 U9 hq9 => ?_⟩⟩
      refine ⟨_, rfl, _, rfl, Evl.sz_of (show (3 : Nat) ≤ _ from by decide), fun r9 nr9 => ?_⟩
      have z9 : Same D9 (upd D9 r9 (.lst [.str "pool", .int pl, .str what])) := Same.new nr9
      have hr9 := upd_same (H := D9) (a := r9) (o := .lst [.str "pool", .int pl, .str what])
      have hqq9 := z9 _ _ hq9
      have ee9 := e9.trans (ExtN.of z9)
      have T10 := U9.ext z9
      have s10 := s9.ext ee9
      have G10 := G9.kt s9 (Kt.ext ee9)
      have pb10 := pb9.ext ee9
      have wb10 := wb9.ext ee9
      have hty10 := tyS_ext hty9 ee9
      have kt10 := kt9.trans (Kt.ext ee9)
      generalize upd D9 r9 (.lst [.str "pool", .int pl, .str what]) = H10 at hr9 hqq9 T10 s10 G10 pb10 wb10 hty10 kt10
      refine ne3 hqq9 hr9 (by decide +kernel) lp ⟨_, rfl, ?_⟩
      refine ⟨_, rfl, _, rfl, _, rfl, 1, _, _, _, rfl, T10, .inr (.inr ⟨ns, ty, by decide, G10.pool, hty10, hv, fun q10 D10 e10 U10 hq10 => ?_⟩)⟩
      refine ⟨Evl.sz_of (show (1 : Nat) ≤ _ from by decide), fun r10 nr10 => ?_⟩
      have z10 : Same D10 (upd D10 r10 (.lst [.str "people"])) := Same.new nr10
      have hr10 := upd_same (H := D10) (a := r10) (o := .lst [.str "people"])
      have hqq10 := z10 _ _ hq10
      have ee10 := e10.trans (ExtN.of z10)
      have T11 := U10.ext z10
      have s11 := s10.ext ee10
      have G11 := G10.kt s10 (Kt.ext ee10)
      have pb11 := pb10.ext ee10
      have wb11 := wb10.ext ee10
      have hty11 := tyS_ext hty10 ee10
      have kt11 := kt10.trans (Kt.ext ee10)
      generalize upd D10 r10 (.lst [.str "people"]) = H11 at hr10 hqq10 T11 s11 G11 pb11 wb11 hty11 kt11
      refine eq1 hqq10 hr10 (by decide +kernel) ?_
      exact k _ s11 T11 kt11
end
end K12

set_option Elab.async false
set_option linter.all false
set_option maxRecDepth 100000
set_option maxHeartbeats 8000000
/-! Played. -/
namespace K12
open PySem PySem.Spec PyProof.Rows L2 K12L Hand RZ NdefX LamX
local macro_rules | `(tactic| walk_at "rd") => `(tactic| repeat (first | (with_reducible exact trivial) | refine ⟨_, rfl, ?_⟩ | refine ⟨_, _, rfl, rfl, ?_⟩ | refine Or.inl ⟨_, rfl, ?_⟩ | refine ⟨Or.inr ⟨by decide, by decide⟩, ?_⟩ | refine ⟨Or.inl ⟨by omega, by omega⟩, ?_⟩ | refine ⟨⟨by decide, by decide +kernel⟩, ?_⟩ | refine ⟨(show (0 : Int) < _ from by decide), ?_⟩ | refine ⟨(show (0 : Int) < _ from by omega), ?_⟩ | refine ⟨cdivW (by omega) (by omega), ?_⟩ | refine ⟨_, _, _, _, rfl, rfl, SqL.of (by first | assumption | exact upd_same), by rfl, ?_⟩ | refine ⟨_, _, _, _, rfl, rfl, (by first | assumption | exact upd_same), by rfl, ?_⟩ | refine ⟨_, _, rfl, Or.inl (SqL.of (by first | assumption | exact upd_same)), ?_⟩ | refine ⟨Or.inl ⟨rfl, _, SqL.of (by first | assumption | exact upd_same)⟩, ?_⟩ | refine ⟨_, _, _, rfl, rfl, (by first | assumption | exact upd_same), (Evl.sz_lt (by first | omega | (simp only [List.length_map]; omega))), ?_⟩ | refine ⟨rfl, ?_⟩))
/-! ### the plain law of a play -/
theorem ho_ends {ans : List Call → Call → Option (Option Nat)} (V : Valid ans) (n : Nat) : ∀ (r : List Int) (t : Nat) (ls : List Int) (ps : List (List Int)) (cs : List Call), ls.length = n →
    (∃ p, (ho ans t r ls ps cs).1 = .split p) ∨ ∃ c l, (ho ans t r ls ps cs).1 = .stuck c l ∧ l.length = n
  | [], t, ls, ps, cs, h => .inl ⟨ps, rfl⟩
  | c :: r, t, ls, ps, cs, h => by
    unfold ho
    cases hall : (ls.all fun l => decide (l < c)) with
    | true => exact .inr ⟨c, ls, rfl, h⟩
    | false =>
      obtain ⟨j, e, h1, h2⟩ := V cs c ls hall
      rw [if_neg (by decide), e]
      exact ho_ends V n r (t + 1) _ _ _ (by rw [List.length_set]; exact h)
theorem good_d {picks coins W : List Int} (hs : W.sum = coins.sum) (hn : ∀ x ∈ W, 0 ≤ x) (ha : coins.Pairwise (· ≤ ·)) : Good W coins (play (ansD picks (-1)) coins W).1 := by
  rcases ho_ends (valid_picks picks) W.length coins.reverse 0 W (W.map fun _ => []) [] rfl with ⟨p, e⟩ | ⟨c, l, e, hl⟩
  · have e' : (play (ansD picks (-1)) coins W).1 = .split p := e
    rw [e']
    refine ho_split (ans := ansD picks (-1)) (fun cs c ls j hall h => ?_) coins.reverse 0 W (W.map fun _ => []) [] p (start_go hs hn ha) e
    obtain ⟨j', e1, h1, h2⟩ := valid_picks picks cs c ls hall
    rw [h] at e1
    injection e1 with e1
    injection e1 with e1
    subst e1
    exact ⟨h1, h2⟩
  · have e' : (play (ansD picks (-1)) coins W).1 = .stuck c l := e
    rw [e']
    exact hl
theorem good_lost {W coins : List Int} {e : HEnd} (g : Good W coins e) : e ≠ .lost := fun z => by
  rw [z] at g
  exact g
theorem runs_eq {picks coins : List Int} (W : List Int) (odd : V) (hl : picks.length = coins.length) : play (ansOf (chRun picks (-1) odd)) coins W = play (ansD picks (-1)) coins W := by
  refine ho_congr _ _ coins.length coins.reverse 0 W _ [] (by simp) fun cs c ls hc hall => ?_
  unfold ansOf chRun ansD
  rw [if_neg (show ¬ ((cs.length : Int) = -1) by omega), if_neg (show ¬ ((cs.length : Int) = -1) by omega), if_pos (show cs.length < picks.length by omega)]
  have hm := mem_able.mp (pick_able (ps := picks) (t := cs.length) (c := c) (ls := ls) (fun z => by
    rw [able_nil.mp z] at hall
    cases hall))
  show some (person (.int ((pick picks cs.length c ls : Nat) : Int)) c ls) = _
  unfold person
  show some (if 0 ≤ ((pick picks cs.length c ls : Nat) : Int) ∧ ((pick picks cs.length c ls : Nat) : Int) < (ls.length : Int) ∧ c ≤ ls.getD ((pick picks cs.length c ls : Nat) : Int).toNat 0 then some ((pick picks cs.length c ls : Nat) : Int).toNat else none) = _
  rw [Int.toNat_natCast, if_pos ⟨by omega, by omega, hm.2⟩]
theorem calls_le {coins W : List Int} {ans : List Call → Call → Option (Option Nat)} : (play ans coins W).2.length ≤ coins.length := by
  obtain ⟨more, e, h⟩ := calls_ext ans coins.reverse 0 W (W.map fun _ => []) []
  have e' : (play ans coins W).2 = [] ++ more := e
  rw [e']
  simpa using h
theorem runs_bad {picks coins W : List Int} {odd : V} {b : Nat} {x : Call} (hl : picks.length = coins.length) (hx : (play (ansD picks (-1)) coins W).2[b]? = some x) (hp : person odd x.1 x.2 = none) :
    play (ansD picks (b : Int)) coins W = (.bad b, (play (ansD picks (-1)) coins W).2.take (b + 1)) ∧ play (ansOf (chRun picks (b : Int) odd)) coins W = (.bad b, (play (ansD picks (-1)) coins W).2.take (b + 1)) ∧
    play (ansOf (chRai picks (b : Int))) coins W = (.lost, (play (ansD picks (-1)) coins W).2.take (b + 1)) ∧ ((play (ansD picks (-1)) coins W).2.take (b + 1)).length = b + 1 := by
  have hb := (List.getElem?_eq_some_iff.mp hx).1
  have hb2 : b < picks.length := by
    have := calls_le (coins := coins) (W := W) (ans := ansD picks (-1))
    omega
  have eR := runs_eq W odd hl
  have hx2 := hx
  rw [← eR] at hx2
  refine ⟨?_, ?_, ?_, by rw [List.length_take]; omega⟩
  · refine ho_cut (ansD picks (-1)) (ansD picks (b : Int)) b x (some none) (.bad b) (.inr ⟨rfl, rfl⟩) (fun cs y h => ?_) (fun cs h => ?_) coins.reverse 0 W _ [] rfl (Nat.zero_le _) hx
    · unfold ansD
      rw [if_neg (by omega), if_neg (by omega)]
    · unfold ansD
      rw [if_pos (by omega)]
  · rw [← eR]
    refine ho_cut (ansOf (chRun picks (-1) odd)) (ansOf (chRun picks (b : Int) odd)) b x (some none) (.bad b) (.inr ⟨rfl, rfl⟩) (fun cs y h => ?_) (fun cs h => ?_) coins.reverse 0 W _ [] rfl (Nat.zero_le _) hx2
    · unfold ansOf chRun
      rw [if_neg (show ¬ ((cs.length : Int) = (b : Int)) by omega), if_neg (show ¬ ((cs.length : Int) = -1) by omega)]
    · unfold ansOf chRun
      rw [if_pos (by omega)]
      show some (person odd x.1 x.2) = _
      rw [hp]
  · rw [← eR]
    refine ho_cut (ansOf (chRun picks (-1) odd)) (ansOf (chRai picks (b : Int))) b x none .lost (.inl ⟨rfl, rfl⟩) (fun cs y h => ?_) (fun cs h => ?_) coins.reverse 0 W _ [] rfl (Nat.zero_le _) hx2
    · unfold ansOf chRun chRai
      rw [if_neg (show ¬ ((b : Int) < (cs.length : Int) + 1) by omega), if_neg (show ¬ ((cs.length : Int) = -1) by omega), if_pos (show cs.length < picks.length by omega)]
    · unfold ansOf chRai
      rw [if_pos (by omega)]
      rfl
theorem eqv_nilD (ds : List PyData) : PyData.eqv (.list ds) (.list []) = decide (ds = []) := by
  cases ds with
  | nil => rfl
  | cons a r => rfl
theorem DueAt.ext {H H' : Hp} {p : Addr} {x : V} {ca : Addr} {ts : List Addr} {r : HEnd × List Call} (d : DueAt H p x ca ts r) (e : ExtN H H') : DueAt H' p x ca ts r := by
  refine d.imp (fun a xs h => e _ _ h (fun ps z => by cases z)) (fun o h => e _ _ h fun ps z => ?_) fun o h => e _ _ h fun ps z => ?_
  · rw [d.hp] at h
    cases h
    cases z
  · rw [d.hc] at h
    cases h
    cases z
theorem fl_calls (cs : List Call) : Fl 4 (.list (cs.map dCall)) := by
  refine Fl.list fun x hx => ?_
  obtain ⟨y, _, rfl⟩ := List.mem_map.mp hx
  refine Fl.tuple fun z hz => ?_
  rcases List.mem_cons.mp hz with e | hz
  · rw [e]; exact Fl.int _
  · rw [List.mem_singleton.mp hz]
    exact Fl.tuple (fl_ints _)
/-- a call tells of all people -/
theorem ho_lens (ans : List Call → Call → Option (Option Nat)) (n : Nat) : ∀ (r : List Int) (t : Nat) (ls : List Int) (ps : List (List Int)) (cs : List Call), ls.length = n → (∀ x ∈ cs, x.2.length = n) → ∀ x ∈ (ho ans t r ls ps cs).2, x.2.length = n
  | [], t, ls, ps, cs, h, hc => hc
  | c :: r, t, ls, ps, cs, h, hc => by
    have hc' : ∀ x ∈ cs ++ [(c, ls)], x.2.length = n := fun x hx => by
      rcases List.mem_append.mp hx with e | e
      · exact hc x e
      · rw [List.mem_singleton.mp e]
        exact h
    unfold ho
    cases hall : (ls.all fun l => decide (l < c)) with
    | true => exact hc
    | false =>
      rw [if_neg (by decide)]
      cases ans cs (c, ls) with
      | none => exact hc'
      | some o =>
        cases o with
        | none => exact hc'
        | some j => exact ho_lens ans n r (t + 1) _ _ _ (by rw [List.length_set]; exact h) hc'
section
variable {P : Program} {w : World} {K : PySem.W.Frag} {mg : Str → Option Value} {base : Heap} {Pr Pa Pd : Addr}
def Ends (ends : Str) (cs W : List Int) : Prop := ∀ picks : List Int, picks.length = cs.length → ends = "" ∨ kindS (play (ansD picks (-1)) cs W).1 = ends
def spPlayed (Pr Pa Pd : Addr) : Sp := fun vs H Q _ => ∃ (hd : Hd) (h a u : Addr) (ns cs W : List Int) (ends : Str), vs = [.ref hd.1, .ref h, .ref a, .ref u, .str ends] ∧ St hd H ∧ TabsN (TT Pr Pa Pd) H ∧ Given H hd h a u ns cs W ∧ Ends ends cs W ∧
  ∀ H', St hd H' → TabsN (TT Pr Pa Pd) H' → Kt hd.1 H H' → Q (.bl true) H'
theorem h_l_played (T : Txt K mg) (R : Ers P K mg) (C : Cts K mg) (Tb : Tbl K mg base Pr Pa Pd) (noTup : PySem.W.kitOne K (.type "tuple") (.ref (cC K "Stuck")) = some false) : Has P w K mg base CX0 11 "_law_played" P_l_played (spPlayed Pr Pa Pd) := by
  obtain ⟨f, fd, g, F⟩ := T.dfn ("_law_played", 61) (by decide +kernel)
  have h_l_take := h_l_take (P := P) (w := w) (base := base) T
  have h_l_due := h_l_due (P := P) (w := w) (base := base) T
  have h_l_same := h_l_same (P := P) (w := w) (base := base) T
  have h_l_listed := h_l_listed (P := P) (w := w) (base := base) T
  have h_l_wrong_choice := h_l_wrong_choice (P := P) (w := w) (base := base) T
  have h_l_run := h_l_run (w := w) T R C Tb noTup
  have h_l_raised_at := h_l_raised_at (w := w) T R C Tb
  refine ⟨f, fd, g, F.kp, F.bindsN (fun _ _ _ _ _ _ us hl => match us, hl with | [_, _, _, _, _], _ => rfl), F.ok sc_l_played (fun vs H Q E h => ?_) fun cdv A outer s H vs Q E hr h => ?_⟩
  · obtain ⟨_, _, _, _, _, _, _, _, rfl, _⟩ := h
    rfl
  · obtain ⟨hd, h, a, u, ns, cs, W, ends, rfl, hs, hT, G, hE, k⟩ := h
    refine ⟨_, PSs.nox (pss_cons (ps_for PassesOwn.never rfl (pi_range1 rfl (T.free "range" (by decide)) (pa_cons pe_int pa_nil)) (pg_name (i := 5) sc_l_played.nd rfl (Or.inl rfl))
    (pss_cons (ps_setLc (i := 6) (own := [("_law_coin", 10)]) (g := gName 10) (tt := tYes) rfl sc_l_played.nd rfl rfl (sw_true rfl rfl rfl (by decide +kernel)) (pi_list (pv 2)) (blkOk_by (N := N_l_played) (sc := defScope s_l_played) (by decide +kernel)) (fun _ _ _ _ _ => pg_name (i := 10) sc_l_played.nd rfl (Or.inl rfl)) (fun _ _ _ _ _ => pts_nil) (fun _ _ _ _ _ => (pe_has h_l_take hr (by decide) (pa_cons (pv 0) (pa_cons pe_int pa_nil)))))
    (pss_cons (ps_set (i := 7) sc_l_played.nd rfl (Or.inl rfl) (pe_has h_l_due hr (by decide) (pa_cons (pv 2) (pa_cons (pv 3) (pa_cons (pv 6) (pa_cons (pe_un un_neg pe_int) pa_nil))))))
    (Evl.pss_cut (ps_if (PW.pt (pw_and (pt_cmpR op_ne (pv 4) pe_str (nomark _)) (pw_and1 (pt_cmpR op_ne (pe_ix ix_list (pv 7) pe_int (fun _ _ => rfl)) (pv 4) (nomark _)))))
      (pss_one (ps_ret pe_bl))
      pss_nil)
    (pss_cons (ps_if (pt_not (pt_val (pe_has h_l_same hr (by decide) (pa_cons (pe_has h_l_run hr (by decide) (pa_cons (pv 1) (pa_cons (pe_has h_l_listed hr (by decide) (pa_cons (pv 0) (pa_cons (pv 3) pa_nil))) (pa_cons (pv 6) (pa_cons (pe_un un_neg pe_int) (pa_cons pe_int pa_nil)))))) (pa_cons (pv 7) (pa_cons (pv 2) (pa_cons (pv 3) pa_nil)))))))
      (pss_one (ps_ret pe_bl))
      pss_nil)
    (pss_one (ps_if (pt_cmpR (op_neD hr.units) (pe_ix ix_list (pv 7) pe_int (fun _ _ => rfl)) (pe_lst pa_nil) (nomark _))
      (pss_cons (ps_set (i := 8) sc_l_played.nd rfl (Or.inl rfl) (pe_has h_l_take hr (by decide) (pa_cons (pv 0) (pa_cons (pe_callB call_len_seq rfl (T.free "len" (by decide)) (by decide +kernel) (pa_cons (pe_ix ix_list (pv 7) pe_int (fun _ _ => rfl)) pa_nil)) pa_nil))))
      (pss_cons (ps_set (i := 9) sc_l_played.nd rfl (Or.inl rfl) (pe_has h_l_wrong_choice hr (by decide) (pa_cons (pv 0) (pa_cons (pe_ix ix_tup (pe_ix ix_list (pe_ix ix_list (pv 7) pe_int (fun _ _ => rfl)) (pv 8) (fun _ _ => rfl)) pe_int (fun _ _ => rfl)) (pa_cons (pe_ix ix_tup (pe_ix ix_list (pe_ix ix_list (pv 7) pe_int (fun _ _ => rfl)) (pv 8) (fun _ _ => rfl)) pe_int (fun _ _ => rfl)) pa_nil)))))
      (pss_cons (ps_set (i := 7) sc_l_played.nd rfl (Or.inl rfl) (pe_has h_l_due hr (by decide) (pa_cons (pv 2) (pa_cons (pv 3) (pa_cons (pv 6) (pa_cons (pv 8) pa_nil))))))
      (pss_cons (ps_if (pt_not (pt_val (pe_has h_l_same hr (by decide) (pa_cons (pe_has h_l_run hr (by decide) (pa_cons (pv 1) (pa_cons (pv 3) (pa_cons (pv 6) (pa_cons (pv 8) (pa_cons (pv 9) pa_nil)))))) (pa_cons (pv 7) (pa_cons (pv 2) (pa_cons (pv 3) pa_nil)))))))
        (pss_one (ps_ret pe_bl))
        pss_nil)
      (pss_one (ps_if (pt_cmpR op_ne (pe_has h_l_raised_at hr (by decide) (pa_cons (pv 1) (pa_cons (pv 3) (pa_cons (pv 6) (pa_cons (pv 8) pa_nil))))) (pe_op op_add (pv 8) pe_int) (nomark _))
        (pss_one (ps_ret pe_bl))
        pss_nil))))))
      pss_nil)))))))
  (pss_one (ps_ret pe_bl)))
    , ?_⟩
    refine ⟨3, rfl, by decide, by decide, for_range (lo := 0) (n := 3) (fun i σ H1 => ∃ x5 x6 x7 x8 x9 : Option V, σ = [some (.ref hd.1), some (.ref h), some (.ref a), some (.ref u), some (.str ends), x5, x6, x7, x8, x9, none] ∧ St hd H1 ∧ TabsN (TT Pr Pa Pd) H1 ∧ Kt hd.1 H H1)
      ⟨none, none, none, none, none, rfl, hs, hT, Kt.refl _ _⟩ ?_ ?_⟩
    · rintro i σ H1 hi ⟨x5, x6, x7, x8, x9, rfl, s1, T1, kt1⟩
      have G1 := G.kt hs kt1
      refine ⟨_, rfl, a, rfl, ⟨_, SqL.of G1.ha⟩, fun D nD => lc_list (K := K) (a := a) (xs := cs.map V.int) (fun i H2 => Drawn hd H1 0 59 D i H2) ⟨[], upd_same, s1.new nD, Kh.new nD, rfl, In.nil⟩ (fun i H2 _ ⟨_, _, _, k2, _⟩ => SqL.of (k2.lst s1 G1.ha)) ?_ ?_⟩
      · intro i v H2 hv dr
        obtain ⟨cs', h1, h2, h3, h4, h5⟩ := id dr
        have hi := (List.getElem?_eq_some_iff.mp hv).1
        rw [List.length_map] at hi
        have := G.len
        refine ⟨rfl, ?_⟩
        refine ⟨_, rfl, hd, _, rfl, h2, by decide, by decide, fun r' H3 r0' r1' s3 k3 => ?_⟩
        exact dr.put nD (s1.ne nD) (s1.nc nD) s3 k3 (by omega) (by omega) (by omega)
      · rintro H2 ⟨picks, hD, s2, k2, hpl, hin⟩
        rw [List.length_map] at hpl
        have T2 := tt_kh T1 s1 k2
        have G2 := G1.kt s1 (Kt.kh k2)
        have kt2 : Kt hd.1 H H2 := kt1.trans (Kt.kh k2)
        have hlen := G.len
        generalize hr0 : play (ansD picks (-1)) cs W = r0
        have gd : Good W cs r0.1 := by
          rw [← hr0]
          exact good_d G.sum G.wnn G.asc
        refine ⟨_, rfl, _, rfl, _, rfl, _, rfl, a, u, D, -1, cs, W, picks, rfl, G2.ha, G2.hu, hD, G.len, hpl, G.w5, fun p x ca ts H3 np z3 d3 => ?_⟩
        rw [hr0] at d3
        have T3 := T2.ext z3
        have s3 := s2.same z3
        have G3 := G2.kt s2 (Kt.same z3)
        have kt3 : Kt hd.1 H H3 := kt2.trans (Kt.same z3)
        have hD3 := z3 _ _ hD
        refine ⟨fun σ H' => σ = [some (.ref hd.1), some (.ref h), some (.ref a), some (.ref u), some (.str ends), some (.int (i : Int)), some (.ref D), some (.ref p), x8, x9, none] ∧ H' = H3, ?_, ?_⟩
        · refine ⟨_, rfl, rfl, _, rfl, ?_⟩
          rcases hE picks hpl with he | he
          · rw [he]
            exact ⟨by rw [Int.zero_add]; rfl, rfl⟩
          · by_cases h0 : ends = ""
            · rw [h0]
              exact ⟨by rw [Int.zero_add]; rfl, rfl⟩
            · rw [decide_eq_false (show ¬ V.str ends = V.str "" from fun z => h0 (by injection z))]
              refine ⟨_, rfl, p, _, _, _, rfl, rfl, SqL.of d3.hp, atI_nat (j := 0) rfl, _, rfl, rfl, _, rfl, ?_⟩
              rw [hr0] at he
              rw [decide_eq_true (show V.str (kindS r0.1) = V.str ends by rw [he])]
              exact ⟨by rw [Int.zero_add]; rfl, rfl⟩
        · rintro σ H' ⟨rfl, rfl⟩
          have aok : ∀ {H5 : Hp} {q : Addr} {b : Bool}, SqH b H5 q (W.map V.int) → AmtOk H5 (.ref q) W := fun {H5 q b} hq => ⟨q, b, rfl, hq, G.w1, G.w5, G.wc⟩
          have wsum : W.sum = ns.sum := by rw [G.sum, sum_perm G.perm]
          refine ⟨_, rfl, _, rfl, _, rfl, hd, u, W, rfl, s3, G3.hu, fun q b H4 s4 k4 hq qh => ?_⟩
          have T4 := tt_kh T3 s3 k4
          have G4 := G3.kt s3 (Kt.kh k4)
          have kt4 : Kt hd.1 H H4 := kt3.trans (Kt.kh k4)
          have d4 := d3.kh s3 k4
          have hD4 := k4.lst s3 hD3
          refine ⟨_, rfl, _, rfl, .ref h, .ref q, D, -1, .int 0, ns, cs, W, picks, r0, "int", rfl, G4.pool, G.perm, G.asc, aok hq, wsum, hD4, by omega, rfl, (runs_eq W _ hpl).trans hr0, good_lost gd, T4, fun p5 x5' ca5 ts5 H5 np5 e5 T5 d5 => ?_⟩
          have s5 := s4.ext e5
          have G5 := G4.kt s4 (Kt.ext e5)
          refine ⟨_, rfl, _, rfl, _, rfl, p5, p, a, u, ca5, ca, _, _, ts5, ts, cs, W, r0, rfl, d5, d4.ext e5, G5.ha, G5.hu, gd, G.asc, G.len, G.w5, fun H6 z6 => ?_⟩
          have e46 := e5.trans (ExtN.of z6)
          have T6 := T5.ext z6
          have s6 := s5.same z6
          have G6 := G4.kt s4 (Kt.ext e46)
          have kt6 : Kt hd.1 H H6 := kt4.trans (Kt.ext e46)
          have d6 := d4.ext e46
          have hD6 := e46 _ _ hD4 (fun ps z => by cases z)
          refine ⟨_, rfl, ?_⟩
          refine ⟨_, rfl, p, _, _, _, rfl, rfl, SqL.of d6.hp, atI_nat (j := 2) rfl, Evl.sz_of (show (0 : Nat) ≤ _ from by decide), fun e0 ne0 => ?_⟩
          have z7 : Same H6 (upd H6 e0 (.lst [])) := Same.new ne0
          have he0 := upd_same (H := H6) (a := e0) (o := .lst [])
          have T7 := T6.ext z7
          have s7 := s6.same z7
          have G7 := G6.kt s6 (Kt.same z7)
          have kt7 : Kt hd.1 H _ := kt6.trans (Kt.same z7)
          have d7 := d6.same z7
          have hD7 := z7 _ _ hD6
          generalize upd H6 e0 (.lst []) = H7 at he0 T7 s7 G7 kt7 d7 hD7
          refine ⟨.list (r0.2.map dCall), .list [], .lst (SqL.of d7.hc) (dp_calls d7.calls), .lst (SqL.of he0) .nil, (fl_calls _).shaped (by decide), (Fl.list (k := 1) (xs := []) (by simp)).shaped (by decide), _, rfl, ?_⟩
          rw [eqv_nilD]
          by_cases hnil : r0.2.map dCall = []
          · rw [decide_eq_true hnil]
            exact ⟨_, _, _, _, _, rfl, s7, T7, kt7⟩
          · rw [decide_eq_false hnil]
            have hlt : ts.length = r0.2.length := d7.calls.len
            have hc12 : r0.2.length ≤ cs.length := by
              rw [← hr0]
              exact calls_le
            have hpos : 0 < r0.2.length := by
              cases e : r0.2 with
              | nil =>
                rw [e] at hnil
                exact absurd rfl hnil
              | cons x y => exact Nat.succ_pos _
            refine ⟨_, rfl, _, rfl, p, _, _, _, rfl, rfl, SqL.of d7.hp, atI_nat (j := 2) rfl, ca, _, rfl, .inl (SqL.of d7.hc), hd, _, rfl, s7, by rw [List.length_map]; omega, by rw [List.length_map]; omega, fun rb H8 b0 b1 s8 k8 => ?_⟩
            have T8 := tt_kh T7 s7 k8
            have G8 := G7.kt s7 (Kt.kh k8)
            have kt8 : Kt hd.1 H H8 := kt7.trans (Kt.kh k8)
            have d8 := d7.kh s7 k8
            have hD8 := k8.lst s7 hD7
            obtain ⟨n, rfl⟩ := Int.eq_ofNat_of_zero_le b0
            rw [List.length_map] at b1
            have hn : n < ts.length := by omega
            have hat : atI (ts.map V.ref) (n : Int) = some (.ref ts[n]) := atI_nat (by rw [List.getElem?_map, List.getElem?_eq_getElem hn] <;> rfl)
            obtain ⟨u', c, ls, hx, ht, hu'⟩ := d8.calls.at_ (List.getElem?_eq_getElem hn)
            have hls : ls.length ≤ 5 := by
              have hm := List.mem_of_getElem? hx
              rw [← hr0] at hm
              have := ho_lens (ansD picks (-1)) W.length cs.reverse 0 W (W.map fun _ => []) [] rfl (by simp) (c, ls) hm
              have h5 := G.w5
              have this : ls.length = W.length := this
              omega
            rw [← hr0] at hx
            refine ⟨_, rfl, _, rfl, p, _, _, _, rfl, rfl, SqL.of d8.hp, atI_nat (j := 2) rfl, _, rfl, ca, _, _, _, rfl, rfl, SqL.of d8.hc, hat, ts[n], _, _, _, rfl, rfl, SqT.of ht, atI_nat (j := 0) rfl, _, rfl, p, _, _, _, rfl, rfl, SqL.of d8.hp, atI_nat (j := 2) rfl, _, rfl, ca, _, _, _, rfl, rfl, SqL.of d8.hc, hat, ts[n], _, _, _, rfl, rfl, SqT.of ht, atI_nat (j := 1) rfl, hd, c, u', ls, rfl, s8, hu', hls, fun odd ty H9 s9 k9 hpers hty => ?_⟩
            have T9 := tt_kh T8 s8 k9
            have G9 := G8.kt s8 (Kt.kh k9)
            have kt9 : Kt hd.1 H H9 := kt8.trans (Kt.kh k9)
            have hD9 := k9.lst s8 hD8
            obtain ⟨rb1, rb2, rb3, rb4⟩ := runs_bad (odd := odd) hpl hx hpers
            generalize (play (ansD picks (-1)) cs W).2.take (n + 1) = cut at rb1 rb2 rb3 rb4
            refine ⟨_, rfl, _, rfl, _, rfl, _, rfl, a, u, D, (n : Int), cs, W, picks, rfl, G9.ha, G9.hu, hD9, G.len, hpl, G.w5, fun p10 x10 ca10 ts10 H10 np10 z10 d10 => ?_⟩
            rw [rb1] at d10
            have T10 := T9.ext z10
            have s10 := s9.same z10
            have G10 := G9.kt s9 (Kt.same z10)
            have kt10 : Kt hd.1 H H10 := kt9.trans (Kt.same z10)
            have hD10 := z10 _ _ hD9
            refine ⟨_, rfl, _, rfl, _, rfl, _, rfl, _, rfl, .ref h, .ref u, D, (n : Int), odd, ns, cs, W, picks, (.bad n, cut), ty, rfl, G10.pool, G.perm, G.asc, aok (b := true) G10.hu, wsum, hD10, by omega, tyS_same z10 hty, rb2, (fun z => nomatch z), T10, fun p11 x11 ca11 ts11 H11 np11 e11 T11 d11 => ?_⟩
            have s11 := s10.ext e11
            have G11 := G10.kt s10 (Kt.ext e11)
            have kt11 : Kt hd.1 H H11 := kt10.trans (Kt.ext e11)
            refine ⟨_, rfl, _, rfl, _, rfl, p11, p10, a, u, ca11, ca10, _, _, ts11, ts10, cs, W, (.bad n, cut), rfl, d11, d10.ext e11, G11.ha, G11.hu, trivial, G.asc, G.len, G.w5, fun H12 z12 => ?_⟩
            have T12 := T11.ext z12
            have s12 := s11.same z12
            have G12 := G11.kt s11 (Kt.same z12)
            have kt12 : Kt hd.1 H H12 := kt11.trans (Kt.same z12)
            have hD12 := z12 _ _ (e11 _ _ hD10 (fun ps z => by cases z))
            refine ⟨_, rfl, ?_⟩
            refine ⟨_, rfl, _, rfl, _, rfl, _, rfl, .ref h, .ref u, D, (n : Int), ns, cs, W, picks, cut, rfl, G12.pool, G.perm, G.asc, aok (b := true) G12.hu, wsum, hD12, by omega, rb3, T12, fun H13 e13 T13 => ?_⟩
            refine ⟨_, rfl, _, _, rfl, rfl, rfl, _, rfl, ?_⟩
            rw [decide_eq_true (show V.int (cut.length : Int) = V.int ((n : Int) + 1) by rw [rb4]; rfl)]
            exact ⟨_, _, _, _, _, rfl, s12.ext e13, T13, kt12.trans (Kt.ext e13)⟩
    · rintro σ H1 ⟨x5, x6, x7, x8, x9, rfl, s1, T1, kt1⟩
      exact k H1 s1 T1 kt1
end
end K12

set_option Elab.async false
set_option linter.all false
set_option maxRecDepth 100000
set_option maxHeartbeats 8000000
/-! All picks; repr of what was handed; the rule for a def that is called where no guard stands. -/
namespace K12
open PySem PySem.Spec PyProof.Rows L2 K12L Hand RZ NdefX LamX
local macro_rules | `(tactic| walk_at "rd") => `(tactic| repeat (first | (with_reducible exact trivial) | refine ⟨_, rfl, ?_⟩ | refine ⟨_, _, rfl, rfl, ?_⟩ | refine Or.inl ⟨_, rfl, ?_⟩ | refine ⟨Or.inr ⟨by decide, by decide⟩, ?_⟩ | refine ⟨Or.inl ⟨by omega, by omega⟩, ?_⟩ | refine ⟨⟨by decide, by decide +kernel⟩, ?_⟩ | refine ⟨(show (0 : Int) < _ from by decide), ?_⟩ | refine ⟨(show (0 : Int) < _ from by omega), ?_⟩ | refine ⟨cdivW (by omega) (by omega), ?_⟩ | refine ⟨_, _, _, _, rfl, rfl, SqL.of (by first | assumption | exact upd_same), by rfl, ?_⟩ | refine ⟨_, _, _, _, rfl, rfl, (by first | assumption | exact upd_same), by rfl, ?_⟩ | refine ⟨_, _, rfl, Or.inl (SqL.of (by first | assumption | exact upd_same)), ?_⟩ | refine ⟨Or.inl ⟨rfl, _, SqL.of (by first | assumption | exact upd_same)⟩, ?_⟩ | refine ⟨_, _, _, rfl, rfl, (by first | assumption | exact upd_same), (Evl.sz_lt (by first | omega | (simp only [List.length_map]; omega))), ?_⟩ | refine ⟨rfl, ?_⟩))
/-! ### repr of a list of ints -/
theorem log_lt {n : Int} (h1 : 1 ≤ n) (h2 : n ≤ 1000000000) : n.natAbs.log2 < 30 := by
  have hn : n.natAbs ≠ 0 := by omega
  exact (Nat.log2_lt hn).mpr (by omega)
theorem weight_ints : ∀ {ns : List Int}, In 1 1000000000 ns → PyData.weightAll (dInts ns) ≤ 31 * ns.length
  | [], _ => Nat.le_refl _
  | n :: ns, h => by
    have i := weight_ints (ns := ns) fun x hx => h x (by simp [hx])
    obtain ⟨h1, h2⟩ := h n (by simp)
    have hl := log_lt h1 h2
    have e : PyData.weightAll (dInts (n :: ns)) = PyData.weight (.int n) + 1 + PyData.weightAll (dInts ns) := by
      show PyData.weightAll (.int n :: dInts ns) = _
      rw [PyData.weightAll]
    have e2 : PyData.weight (.int n) = n.natAbs.log2 + 1 := by
      rw [PyData.weight, if_neg]
      intro z
      have := of_decide_eq_true z
      omega
    rw [e, e2, List.length_cons]
    omega
theorem shows_ints {ns : List Int} {d : PyData} (hd : d = .list (dInts ns) ∨ d = .tuple (dInts ns)) (hl : ns.length ≤ 12) (h : In 1 1000000000 ns) : d.showable = true ∧ d.hasDict = false ∧ d.depth ≤ 8 ∧ d.shown.length ≤ sizeLine := by
  have fl : Fl 1 d := by
    rcases hd with e | e <;> rw [e]
    · exact Fl.list (fl_ints ns)
    · exact Fl.tuple (fl_ints ns)
  have hs : PyData.showableAll (dInts ns) = true := PyData.showableAll_ints ns fun n hn => by
    obtain ⟨h1, h2⟩ := h n hn
    exact Nat.lt_trans (log_lt h1 h2) (by decide)
  have hi : PyData.intsShortAll 13 (dInts ns) = true := intsShortAll_ints2 ns fun n hn => by
    obtain ⟨h1, h2⟩ := h n hn
    omega
  have hw := weight_ints h
  have sh : d.showable = true := by rcases hd with e | e <;> rw [e, PyData.showable] <;> exact hs
  have si : d.intsShort 13 = true := by rcases hd with e | e <;> rw [e, PyData.intsShort] <;> exact hi
  have sw : PyData.weight d ≤ 2 ^ 20 := by
    have z : PyData.weight d = PyData.weightAll (dInts ns) := by rcases hd with e | e <;> rw [e, PyData.weight]
    rw [z]
    omega
  refine ⟨sh, PyData.hasDict_of_canLay d fl.1, Nat.le_trans fl.2 (by decide), ?_⟩
  have lay : PyData.layable0 d = true := by
    unfold PyData.layable0
    rw [fl.1, decide_eq_true (Nat.le_trans fl.2 (show 1 ≤ 64 by decide)), decide_eq_true sw]
    rfl
  exact Nat.le_trans (shown_le13 lay si) (by rw [sizeLine_eq]; decide)
def RowAt (H : Hp) (q : Addr) (n : Nat) : Prop := ∃ ns : List Int, H q = some (.lst (ns.map V.int)) ∧ ns.length = n
theorem RowAt.same {H H' : Hp} {q : Addr} {n : Nat} (r : RowAt H q n) (s : Same H H') : RowAt H' q n := by
  obtain ⟨ns, h, l⟩ := r
  exact ⟨ns, s _ _ h, l⟩
section
variable {P : Program} {w : World} {K : PySem.W.Frag} {mg : Str → Option Value} {base : Heap} {Pr Pa Pd : Addr}
def spLonger : Sp := fun vs H Q _ => ∃ (a : Addr) (m : Int) (qs : List Addr) (n : Nat), vs = [.ref a, .int m] ∧ 1 ≤ m ∧ m ≤ 5 ∧ n ≤ 12 ∧ qs.length ≤ 1000 ∧ H a = some (.lst (qs.map V.ref)) ∧ (∀ q ∈ qs, RowAt H q n) ∧
  ∀ (p : Addr) (H' : Hp) (rs : List Addr), H p = none → Same H H' → H' p = some (.lst (rs.map V.ref)) → rs.length ≤ 5 * qs.length → (∀ q ∈ rs, RowAt H' q (n + 1)) → Q (.ref p) H'
theorem h_l_longer (T : Txt K mg) : Has P w K mg base CX0 1 "_law_longer" P_l_longer spLonger := by
  obtain ⟨f, fd, g, F⟩ := T.dfn ("_law_longer", 63) (by decide +kernel)
  refine ⟨f, fd, g, F.kp, F.bindsN (fun _ _ _ _ _ _ us hl => match us, hl with | [_, _], _ => rfl), F.ok sc_l_longer (fun vs H Q E h => ?_) fun cdv A outer s H vs Q E hr h => ?_⟩
  · obtain ⟨a, m, qs, n, rfl, _⟩ := h
    rfl
  · obtain ⟨a, m, qs, n, rfl, m1, m5, hn, hql, ha, hq, k⟩ := h
    refine ⟨_, PSs.nox (pss_cons (ps_set (i := 2) sc_l_longer.nd rfl (Or.inl rfl) (pe_lst pa_nil))
  (pss_cons (ps_for PassesOwn.never rfl (pi_list (pv 0)) (pg_name (i := 3) sc_l_longer.nd rfl (Or.inl rfl))
    (pss_one (ps_for PassesOwn.never rfl (pi_range1 rfl (T.free "range" (by decide)) (pa_cons (pv 1) pa_nil)) (pg_name (i := 4) sc_l_longer.nd rfl (Or.inl rfl))
      (pss_one (ps_expr (pe_bm PySem.F.plainAttrs_list PySem.F.slot_list_append PySem.F.type_list_append mt_append (pv 2) (pa_cons (pe_op op_cat (pv 3) (pe_lst (pa_cons (pv 4) pa_nil))) pa_nil)))))))
  (pss_one (ps_ret (pv 2)))))
    , ?_⟩
    refine ⟨Evl.sz_of (show (0 : Nat) ≤ _ from by decide), fun p np => ?_⟩
    have sp0 : Same H (upd H p (.lst [])) := Same.new np
    refine ⟨_, rfl, a, rfl, ⟨_, SqL.of (sp0 _ _ ha)⟩, for_list (K := K) (a := a) (xs := qs.map V.ref) (fun i σ H1 => ∃ (rs : List Addr) (x y : Option V), σ = [some (.ref a), some (.int m), some (.ref p), x, y] ∧ H1 p = some (.lst (rs.map V.ref)) ∧ rs.length ≤ 5 * i ∧ (∀ q ∈ rs, q ≠ p ∧ RowAt H1 q (n + 1)) ∧ Same H H1)
      ⟨[], none, none, rfl, upd_same, by simp, by simp, sp0⟩ (fun i σ H1 _ ⟨_, _, _, _, _, _, _, s1⟩ => SqL.of (s1 _ _ ha)) ?_ ?_⟩
    · rintro i v σ H1 hi ⟨rs, x, y, rfl, hp, hl, hrs, s1⟩
      obtain ⟨q, hqi, rfl⟩ := at_map hi
      have hiq := (List.getElem?_eq_some_iff.mp hqi).1
      obtain ⟨ns, hqn, hnl⟩ := hq q (List.mem_of_getElem? hqi)
      have qp : q ≠ p := fun z => by
        rw [z, np] at hqn
        cases hqn
      refine ⟨_, rfl, m, rfl, by omega, by omega, for_range (lo := 0) (n := m.toNat) (fun j σ H2 => ∃ (rs2 : List Addr) (y : Option V), σ = [some (.ref a), some (.int m), some (.ref p), some (.ref q), y] ∧ H2 p = some (.lst (rs2.map V.ref)) ∧ rs2.length ≤ 5 * i + j ∧ (∀ q ∈ rs2, q ≠ p ∧ RowAt H2 q (n + 1)) ∧ Same H H2)
        ⟨rs, y, rfl, hp, hl, hrs, s1⟩ ?_ ?_⟩
      · rintro j σ H2 hj ⟨rs2, y, rfl, hp2, hl2, hrs2, s2⟩
        have hq2 := s2 _ _ hqn
        refine ⟨_, rfl, .inl ⟨rfl, _, SqL.of hp2⟩, _, rfl, _, rfl, Evl.sz_of (show (1 : Nat) ≤ _ from by decide), fun b nb => ?_⟩
        have zb : Same H2 (upd H2 b (.lst [.int (0 + (j : Int))])) := Same.new nb
        refine ⟨q, b, _, _, rfl, rfl, zb _ _ hq2, upd_same, Evl.sz_of (by rw [List.length_map]; show ns.length + 1 ≤ _; omega), fun c nc => ?_⟩
        have zc := zb.trans (Same.new (o := .lst (ns.map V.int ++ [.int (0 + (j : Int))])) nc)
        have cp : c ≠ p := fun z => by
          have e := zb _ _ hp2
          rw [← z, nc] at e
          cases e
        refine ⟨p, _, _, rfl, rfl, zc _ _ hp2, Evl.sz_lt (by rw [List.length_map]; omega), ?_⟩
        refine ⟨rs2 ++ [c], _, rfl, by rw [upd_same, map_snoc], by rw [List.length_append]; show rs2.length + 1 ≤ _; omega, fun r hr => ?_, (s2.trans zc).mut np⟩
        rcases List.mem_append.mp hr with hr | hr
        · obtain ⟨rp, hr⟩ := hrs2 r hr
          obtain ⟨ms, e1, e2⟩ := hr.same zc
          exact ⟨rp, ms, (upd_ne rp).trans e1, e2⟩
        · rw [List.mem_singleton.mp hr]
          refine ⟨cp, ns ++ [0 + (j : Int)], ?_, by rw [List.length_append, hnl] <;> rfl⟩
          rw [upd_ne cp, upd_same, map_snoc]
      · rintro σ H2 ⟨rs2, y, rfl, hp2, hl2, hrs2, s2⟩
        exact ⟨rs2, _, _, rfl, hp2, by omega, hrs2, s2⟩
    · rintro σ H1 ⟨rs, x, y, rfl, hp, hl, hrs, s1⟩
      rw [List.length_map] at hl
      exact ⟨_, rfl, k p H1 rs np s1 hp hl fun q hq => (hrs q hq).2⟩
def spAllPicks : Sp := fun vs H Q _ => ∃ (m n : Int), vs = [.int m, .int n] ∧ 1 ≤ m ∧ m ≤ 5 ∧ 0 ≤ n ∧ n ≤ 3 ∧
  ∀ (p : Addr) (H' : Hp) (rs : List Addr), Same H H' → H' p = some (.lst (rs.map V.ref)) → (∀ q ∈ rs, RowAt H' q n.toNat) → Q (.ref p) H'
theorem h_l_all_picks (T : Txt K mg) : Has P w K mg base CX0 2 "_law_all_picks" P_l_all_picks spAllPicks := by
  obtain ⟨f, fd, g, F⟩ := T.dfn ("_law_all_picks", 62) (by decide +kernel)
  have h_l_longer := h_l_longer (P := P) (w := w) (base := base) T
  refine ⟨f, fd, g, F.kp, F.bindsN (fun _ _ _ _ _ _ us hl => match us, hl with | [_, _], _ => rfl), F.ok sc_l_all_picks (fun vs H Q E h => ?_) fun cdv A outer s H vs Q E hr h => ?_⟩
  · obtain ⟨m, n, rfl, _⟩ := h
    rfl
  · obtain ⟨m, n, rfl, m1, m5, n0, n3, k⟩ := h
    refine ⟨_, PSs.nox (pss_cons (ps_set (i := 2) sc_l_all_picks.nd rfl (Or.inl rfl) (pe_lst (pa_cons (pe_lst pa_nil) pa_nil)))
  (pss_cons (ps_for PassesOwn.never rfl (pi_range1 rfl (T.free "range" (by decide)) (pa_cons (pv 1) pa_nil)) (pg_name (i := 3) sc_l_all_picks.nd rfl (Or.inl rfl))
    (pss_one (ps_set (i := 2) sc_l_all_picks.nd rfl (Or.inl rfl) (pe_has h_l_longer hr (by decide) (pa_cons (pv 2) (pa_cons (pv 0) pa_nil))))))
  (pss_one (ps_ret (pv 2)))))
    , ?_⟩
    refine ⟨Evl.sz_of (show (0 : Nat) ≤ _ from by decide), fun b nb => ⟨Evl.sz_of (show (1 : Nat) ≤ _ from by decide), fun p np => ?_⟩⟩
    have s0 := (Same.new (o := .lst []) nb).trans (Same.new (o := .lst [.ref b]) np)
    have hb := Same.new (o := .lst [.ref b]) np _ _ (upd_same (H := H) (a := b) (o := .lst []))
    refine ⟨_, rfl, n, rfl, by omega, by omega, for_range (lo := 0) (n := n.toNat) (fun i σ H1 => ∃ (q : Addr) (rs : List Addr) (x : Option V), σ = [some (.int m), some (.int n), some (.ref q), x] ∧ H1 q = some (.lst (rs.map V.ref)) ∧ rs.length ≤ 5 ^ i ∧ (∀ q ∈ rs, RowAt H1 q i) ∧ Same H H1)
      ⟨p, [b], none, rfl, upd_same, by simp, fun q hq => ⟨[], by rw [List.mem_singleton.mp hq]; exact hb, rfl⟩, s0⟩ ?_ ?_⟩
    · rintro i σ H1 hi ⟨q, rs, x, rfl, hq, hl, hrs, s1⟩
      have h125 : 5 ^ i ≤ 25 := by
        have : i = 0 ∨ i = 1 ∨ i = 2 := by omega
        rcases this with e | e | e <;> subst e <;> decide
      refine ⟨_, rfl, _, rfl, q, m, rs, i, rfl, m1, m5, by omega, by omega, hq, hrs, fun p2 H2 rs2 np2 s2 hp2 hl2 hrs2 => ?_⟩
      exact ⟨p2, rs2, _, rfl, hp2, by rw [Nat.pow_succ]; omega, hrs2, s1.trans s2⟩
    · rintro σ H1 ⟨q, rs, x, rfl, hq, hl, hrs, s1⟩
      exact ⟨_, rfl, k q H1 rs s1 hq hrs⟩
end
end K12

set_option Elab.async false
set_option linter.all false
set_option maxRecDepth 100000
set_option maxHeartbeats 8000000
/-! The ends of a pool; a def called where no guard stands; one turn; the law. -/
namespace K12
open PySem PySem.Spec PyProof.Rows L2 K12L Hand RZ NdefX LamX
local macro_rules | `(tactic| walk_at "rd") => `(tactic| repeat (first | (with_reducible exact trivial) | refine ⟨_, rfl, ?_⟩ | refine ⟨_, _, rfl, rfl, ?_⟩ | refine Or.inl ⟨_, rfl, ?_⟩ | refine ⟨Or.inr ⟨by decide, by decide⟩, ?_⟩ | refine ⟨Or.inl ⟨by omega, by omega⟩, ?_⟩ | refine ⟨⟨by decide, by decide +kernel⟩, ?_⟩ | refine ⟨(show (0 : Int) < _ from by decide), ?_⟩ | refine ⟨(show (0 : Int) < _ from by omega), ?_⟩ | refine ⟨cdivW (by omega) (by omega), ?_⟩ | refine ⟨_, _, _, _, rfl, rfl, SqL.of (by first | assumption | exact upd_same), by rfl, ?_⟩ | refine ⟨_, _, _, _, rfl, rfl, (by first | assumption | exact upd_same), by rfl, ?_⟩ | refine ⟨_, _, rfl, Or.inl (SqL.of (by first | assumption | exact upd_same)), ?_⟩ | refine ⟨Or.inl ⟨rfl, _, SqL.of (by first | assumption | exact upd_same)⟩, ?_⟩ | refine ⟨_, _, _, rfl, rfl, (by first | assumption | exact upd_same), (Evl.sz_lt (by first | omega | (simp only [List.length_map]; omega))), ?_⟩ | refine ⟨rfl, ?_⟩))
theorem play_val {picks cs W : List Int} (h : W.sum = cs.sum) (hn : ∀ x ∈ W, 0 ≤ x) (ha : cs.Pairwise (· ≤ ·)) : Go W cs cs.reverse W (W.map fun _ => []) := start_go h hn ha
theorem ends_none (cs W : List Int) : Ends "" cs W := fun _ _ => .inl rfl
theorem ends_split {m : Int} {cs W : List Int} (hf : failsI m cs cs.length = []) (hm : (W.length : Int) = m) (h : W.sum = cs.sum) (hn : ∀ x ∈ W, 0 ≤ x) (ha : cs.Pairwise (· ≤ ·)) : Ends "split" cs W := fun picks _ => by
  have sv := serve_of hf cs.length (Nat.le_refl _)
  rw [List.take_length, ← hm] at sv
  obtain ⟨ps, e⟩ := ho_serve (valid_picks picks) cs.reverse 0 W (W.map fun _ => []) [] (start_go h hn ha) sv
  refine .inr ?_
  have e' : (play (ansD picks (-1)) cs W).1 = .split ps := e
  rw [e']
  rfl
theorem hard_ok {m : Int} {cs : List Int} {k : Nat} (m1 : 1 ≤ m) (m5 : m ≤ 5) (ha : cs.Pairwise (· ≤ ·)) (hin : In 1 1000000000 cs) (hk : k ∈ failsI m cs cs.length) :
    ((hardW m cs k).length : Int) = m ∧ (∀ x ∈ hardW m cs k, 0 ≤ x) ∧ (hardW m cs k).sum = cs.sum ∧ Ends "stuck" cs (hardW m cs k) := by
  unfold failsI at hk
  obtain ⟨h1, h2⟩ := List.mem_filter.mp hk
  have hlt := List.mem_range.mp h1
  have h3 := of_decide_eq_true h2
  rw [Hand.getD_lt hlt] at h3
  have a0 : 0 ≤ (cs.take (k + 1)).sum := Hand.nn_sum0 _ fun x hx => by
    have := (hin x (List.mem_of_mem_take hx)).1
    omega
  have d0 : 0 ≤ (cs.drop (k + 1)).sum := Hand.nn_sum0 _ fun x hx => by
    have := (hin x (List.mem_of_mem_drop hx)).1
    omega
  obtain ⟨u0, u1, u2, u3⟩ := up_spec m1 m5 a0 h3
  have hmn : ((m - 1).toNat : Int) = m - 1 := Int.toNat_of_nonneg (by omega)
  obtain ⟨p1, p2, p3⟩ := parts_spec (m - 1).toNat ((cs.take (k + 1)).sum - up (cs.take (k + 1)).sum m) (cs[k] - 1) (by omega) (by omega) (by rw [hmn]; exact u3)
  have esum : (cs.take (k + 1)).sum + (cs.drop (k + 1)).sum = cs.sum := by
    have e := congrArg List.sum (List.take_append_drop (k + 1) cs)
    rw [List.sum_append] at e
    exact e
  refine ⟨?_, fun x hx => ?_, ?_, fun picks _ => .inr ?_⟩
  · unfold hardW
    rw [List.length_cons, p3]
    omega
  · unfold hardW at hx
    rcases List.mem_cons.mp hx with e | e
    · omega
    · exact (p1 x e).1
  · unfold hardW
    rw [List.sum_cons, p2]
    omega
  · have er : cs.reverse = (cs.drop (k + 1)).reverse ++ cs[k] :: (cs.take k).reverse := by
      have e : cs = cs.take k ++ (cs[k] :: cs.drop (k + 1)) := by
        rw [← List.drop_eq_getElem_cons hlt, List.take_append_drop]
      have e2 := congrArg List.reverse e
      rw [List.reverse_append, List.reverse_cons, List.append_assoc] at e2
      exact e2
    have hbig : ∀ d ∈ (cs.drop (k + 1)).reverse, cs[k] ≤ d := fun d hd => by
      have hd := List.mem_reverse.mp hd
      have e : cs = cs.take k ++ (cs[k] :: cs.drop (k + 1)) := by
        rw [← List.drop_eq_getElem_cons hlt, List.take_append_drop]
      have ha2 := ha
      rw [e] at ha2
      exact (List.pairwise_cons.mp (List.pairwise_append.mp ha2).2.1).1 d hd
    obtain ⟨c, ls, e⟩ := ho_hard (valid_picks picks) cs[k] (cs.take k).reverse (parts (m - 1).toNat ((cs.take (k + 1)).sum - up (cs.take (k + 1)).sum m)) (up (cs.take (k + 1)).sum m) (by omega) (fun x hx => by have := (p1 x hx).2; omega) (cs.drop (k + 1)).reverse 0 ((hardW m cs k).map fun _ => []) [] hbig
    have e' : (play (ansD picks (-1)) cs (hardW m cs k)).1 = .stuck c ls := by
      rw [← e]
      show (ho _ 0 cs.reverse (hardW m cs k) _ []).1 = _
      rw [er, show (cs.drop (k + 1)).reverse.sum = (cs.drop (k + 1)).sum from List.sum_reverse ..]
      rfl
    rw [e']
    rfl
/-! ### a def that is called where no guard stands -/
structure FnG (P : Program) (w : World) (K : PySem.W.Frag) (mg : Str → Option Value) (base : Heap) (k : Nat) (f : Addr) (fd : FuncData) (ps : List Str) (sp : Sp) : Prop where
  len : ∀ vs H Q E, sp vs H Q E → vs.length = ps.length
  run : ∀ (A : Around), A.guards = some [] → ∀ (outer : List Env) (s : Shared) (H : Hp) (args : Args) (us : List Value) (vs : List V) (Q : VK) (E : XK), Room k A → Env0 P w K mg base A outer s H → BindsTo s fd args (ps.zip us) → Vals vs us → sp vs H Q E →
    codeAny (model P w) A (.call (.ref f) args) (CR CX0 outer P w H s Q E) s
theorem fnG_of {P : Program} {w : World} {K : PySem.W.Frag} {mg : Str → Option Value} {base : Heap} {k : Nat} {f : Addr} {x qual : Str} {params : Arguments} {body : List Stmt} {scope : Scope} {dvs : List V} {kws : List (Str × V)} {fd : FuncData} {N ps : List Str} {sp : Sp}
    (F : FunD K x qual params body scope dvs kws f fd) (sc : FnScope N ps scope) (len : ∀ vs H Q E, sp vs H Q E → vs.length = ps.length)
    (bd : ∀ (cdv : Value) (A : Around), A.guards = some [] → ∀ (outer : List Env) (s : Shared) (H : Hp) (vs : List V) (Q : VK) (E : XK), Room k (A.deeper (envOfC qual scope s.heap.objs.size f cdv)) → sp vs H Q E →
      ∃ t, PSs (cxOf CX0 P w K mg base N qual scope f cdv A outer s H E) body t ∧ t { nx := fun _ H' => Q .non H', rt := Q } (start N vs) H) : FnG P w K mg base (k + 1) f fd ps sp := by
  obtain ⟨oc, od, dV, kV, doc, pm, an, cdv, ct, osl, rfl, lk, hcd, _, _⟩ := F.ex
  refine ⟨len, fun A gA outer s H args us vs Q E room env bind rel ok => ?_⟩
  have kin : K.In s.heap := env.mod.kin.keeps fun b o z => (env.bs b o z).1
  have kinds : ∀ y ∈ ps.zip us, scope.names.lookup y.1 = some .local ∨ (scope.names.lookup y.1 = some .cell ∧ ((cellsFrom (s.heap.objs.size + 1) scope.names []).lookup y.1).isSome = true) := by
    rintro ⟨n, v⟩ hy
    exact (sc.par n (List.of_mem_zip hy).1).imp id fun q => ⟨q, PySem.W.cellsFrom_some _ _ _ (.inl q)⟩
  obtain ⟨t, ht, hq⟩ := bd cdv A gA outer s H vs Q E (room.deeper _) ok
  have made : ∀ {env' : Env} {s1 : Shared}, env' = envOfC qual scope s.heap.objs.size f cdv → True := fun _ => trivial
  refine codeAny_call_function room.depth (kin _ _ lk) rfl sc.co sc.gen rfl (PySem.W.codeRec_of kin hcd) (bind _ _ _ _ (wpAny_newFunctionEnv_cells sc.kind kinds fun env' ee s1 x => ?_))
  cases ee
  have nolim := (env.mod.nolimit.keeps fun b o z => (env.bs b o z).1).keeps x.toInCall.keep
  refine ⟨nolim, codeAny_func (wpAny_mono (ht.run [] s1 (start N vs) H _ (inv_start sc room.hd env (len _ _ _ _ ok) rel x) hq) (fun fl s' hs => ?_) fun _ _ z => z)⟩
  rcases fl with _ | _ | _ | u
  · obtain ⟨σ', H', J, q⟩ := hs
    exact ⟨.non, H', J.os, J.bare, J.base, J.hok, rfl, q⟩
  · exact hs.elim fun _ z => z.elim fun _ z => False.elim z.2
  · exact hs.elim fun _ z => z.elim fun _ z => False.elim z.2
  · obtain ⟨v, σ', H', J, rv, q⟩ := hs
    exact ⟨v, H', J.os, J.bare, J.base, J.hok, rv, q⟩
end K12

set_option Elab.async false
set_option linter.all false
set_option maxRecDepth 100000
set_option maxHeartbeats 8000000
/-! One turn; the law. -/
namespace K12
open PySem PySem.Spec PyProof.Rows L2 K12L Hand RZ NdefX LamX
local macro_rules | `(tactic| walk_at "rd") => `(tactic| repeat (first | (with_reducible exact trivial) | refine ⟨_, rfl, ?_⟩ | refine ⟨_, _, rfl, rfl, ?_⟩ | refine Or.inl ⟨_, rfl, ?_⟩ | refine ⟨Or.inr ⟨by decide, by decide⟩, ?_⟩ | refine ⟨Or.inl ⟨by omega, by omega⟩, ?_⟩ | refine ⟨⟨by decide, by decide +kernel⟩, ?_⟩ | refine ⟨(show (0 : Int) < _ from by decide), ?_⟩ | refine ⟨(show (0 : Int) < _ from by omega), ?_⟩ | refine ⟨cdivW (by omega) (by omega), ?_⟩ | refine ⟨_, _, _, _, rfl, rfl, SqL.of (by first | assumption | exact upd_same), by rfl, ?_⟩ | refine ⟨_, _, _, _, rfl, rfl, (by first | assumption | exact upd_same), by rfl, ?_⟩ | refine ⟨_, _, rfl, Or.inl (SqL.of (by first | assumption | exact upd_same)), ?_⟩ | refine ⟨Or.inl ⟨rfl, _, SqL.of (by first | assumption | exact upd_same)⟩, ?_⟩ | refine ⟨_, _, _, rfl, rfl, (by first | assumption | exact upd_same), (Evl.sz_lt (by first | omega | (simp only [List.length_map]; omega))), ?_⟩ | refine ⟨rfl, ?_⟩))
def HasG (P : Program) (w : World) (K : PySem.W.Frag) (mg : Str → Option Value) (base : Heap) (k : Nat) (x : Str) (ps : List Str) (sp : Sp) : Prop :=
  ∃ f fd, mg x = some (.ref f) ∧ PySem.W.keepIn K (.ref f) = true ∧ Binds K fd ps [] ∧ FnG P w K mg base k f fd ps sp
theorem pe_hasG {X : Cx} {x : Str} {ps : List Str} {sp : Sp} {j k : Nat} {p pos : Pos} {e : Expr} {es : List Expr} {t : TA} (h : HasG X.prog X.w X.K X.mg X.base k x ps sp) (gA : X.A.guards = some []) (hr : Room j X.A) (hk : k ≤ j) (ha : PA X (e :: es) t) (hg : Gl X x := by rfl) (hdb : (x == ("__debug__" : Str)) = false := by decide)
    (he : starEach (e :: es) X.env = (false, eval e X.env) :: starEach es X.env := by rfl) (hpl : (backTo pos (starEach es X.env)).any (·.1) = false := by rfl) :
    PE X (.Call (.Name x p) (e :: es) [] pos) (tCall sp [] E0 t) := by
  obtain ⟨f, fd, g, kp, b, F⟩ := h
  have all : ∀ {pins : List (Addr × Obj)} {σ : L2.St} {H : Hp} {s : Shared} {Q : VK} {us : List Value} {vs : List V}, Inv X pins σ H s → Vals vs us → sp (vs ++ []) H Q E0 → wpAny (model X.prog X.w) X.A (call (.ref f) us) (EP X pins σ Q) X.xe s := fun {pins σ H s Q us vs} I rel ok => by
    have r2 : Vals (vs ++ []) (us ++ []) := rel.append .nil
    refine wpAny_call (codeAny_mono (F.run X.A gA X.stack s H ⟨us, []⟩ (us ++ []) (vs ++ []) Q E0 (hr.mono hk) I.env0 (b s us I.kIn (r2.length.symm.trans (F.len _ _ _ _ ok))) r2 ok) fun r s' hq => ?_)
    rcases r with er | fl
    · exact pass0 pins σ H s er s' I hq
    · rcases fl with _ | _ | _ | u
      · exact hq.elim
      · exact hq.elim
      · exact hq.elim
      · exact I.after hq
  exact ⟨fun pins s σ H Q I ok => wpAny_Call_Name_kw (ld_glob I hg g (PySem.W.callWith_K (h₀ := X.base) I.ok.mod.kin kp (thn (ha.run pos pins s σ H _ I ok) fun us s1 ⟨vs, H1, I1, r, q⟩ => ⟨I1.kIn, all I1 r q⟩) he hpl) hdb)⟩
section
variable {P : Program} {w : World} {K : PySem.W.Frag} {mg : Str → Option Value} {base : Heap} {Pr Pa Pd : Addr}
def spOne (Pr Pa Pd : Addr) : Sp := fun vs H Q _ => ∃ hd : Hd, vs = [.ref hd.1] ∧ St hd H ∧ TabsN (TT Pr Pa Pd) H ∧ ∀ H', St hd H' → TabsN (TT Pr Pa Pd) H' → Q (.bl true) H'
theorem h_l_one (T : Txt K mg) (R : Ers P K mg) (C : Cts K mg) (Tb : Tbl K mg base Pr Pa Pd) (noTup : PySem.W.kitOne K (.type "tuple") (.ref (cC K "Stuck")) = some false) : HasG P w K mg base 12 "_law_one" P_l_one (spOne Pr Pa Pd) := by
  obtain ⟨f, fd, g, F⟩ := T.dfn ("_law_one", 64) (by decide +kernel)
  have h_l_take := h_l_take (P := P) (w := w) (base := base) T
  have h_l_people := h_l_people (P := P) (w := w) (base := base) T
  have h_l_pool := h_l_pool (P := P) (w := w) (base := base) T
  have h_l_given := h_l_given (P := P) (w := w) (base := base) T
  have h_l_fails := h_l_fails (P := P) (w := w) (base := base) T
  have h_l_any_wish := h_l_any_wish (P := P) (w := w) (base := base) T
  have h_l_hard_wish := h_l_hard_wish (P := P) (w := w) (base := base) T
  have h_l_all_picks := h_l_all_picks (P := P) (w := w) (base := base) T
  have h_l_due := h_l_due (P := P) (w := w) (base := base) T
  have h_l_same := h_l_same (P := P) (w := w) (base := base) T
  have h_l_played := h_l_played (w := w) T R C Tb noTup
  have h_l_doors := h_l_doors (w := w) T R C Tb
  have h_l_run := h_l_run (w := w) T R C Tb noTup
  refine ⟨f, fd, g, F.kp, F.bindsN (fun _ _ _ _ _ _ us hl => match us, hl with | [_], _ => rfl), fnG_of F sc_l_one (fun vs H Q E h => ?_) fun cdv A gA outer s H vs Q E hr h => ?_⟩
  · obtain ⟨_, rfl, _⟩ := h
    rfl
  · obtain ⟨hd, rfl, hs, hT, k⟩ := h
    have hgd : (A.deeper (envOfC "_law_one" (defScope (top 64)) s.heap.objs.size f cdv)).guards = some [] := gA
    refine ⟨_, PSs.nox (pss_cons (ps_set (i := 1) sc_l_one.nd rfl (Or.inl rfl) (pe_has h_l_people hr (by decide) (pa_cons (pv 0) pa_nil)))
  (pss_cons (ps_set (i := 2) sc_l_one.nd rfl (Or.inl rfl) (pe_has h_l_pool hr (by decide) (pa_cons (pv 0) (pa_cons (pe_ix ix_list (pe_lst (pa_cons pe_int (pa_cons pe_int pa_nil))) (pe_has h_l_take hr (by decide) (pa_cons (pv 0) (pa_cons pe_int pa_nil))) (fun _ _ => rfl)) (pa_cons (pv 1) pa_nil)))))
  (pss_cons (ps_set (i := 3) sc_l_one.nd rfl (Or.inl rfl) (pe_has h_l_given hr (by decide) (pa_cons (pv 0) (pa_cons (pv 2) pa_nil))))
  (pss_cons (ps_set (i := 4) sc_l_one.nd rfl (Or.inl rfl) (pe_callB (cr_reprD hr hgd) rfl (T.free "repr" (by decide)) (by decide +kernel) (pa_cons (pv 3) pa_nil)))
  (pss_cons (ps_set (i := 5) sc_l_one.nd rfl (Or.inl rfl) (pe_has h_l_fails hr (by decide) (pa_cons (pv 2) (pa_cons (pv 1) pa_nil))))
  (pss_cons (ps_set (i := 6) sc_l_one.nd rfl (Or.inl rfl) (pe_has h_l_any_wish hr (by decide) (pa_cons (pv 0) (pa_cons (pv 2) (pa_cons (pv 1) pa_nil)))))
  (Evl.pss_cut (ps_set (i := 7) sc_l_one.nd rfl (Or.inl rfl) (pe_ifExp (pt_cmpR (op_eqD hr.units) (pv 5) (pe_lst pa_nil) (nomark _)) pe_str pe_str))
  (Evl.pss_cut (ps_if (PW.pt (pw_and (pt_cmpR (op_neD hr.units) (pv 5) (pe_lst pa_nil) (nomark _)) (pw_and1 (pt_truth (pe_has h_l_take hr (by decide) (pa_cons (pv 0) (pa_cons pe_int pa_nil))) (by intro _; rfl)))))
    (pss_cons (ps_set (i := 6) sc_l_one.nd rfl (Or.inl rfl) (pe_has h_l_hard_wish hr (by decide) (pa_cons (pv 2) (pa_cons (pv 1) (pa_cons (pe_ix ix_list (pv 5) (pe_has h_l_take hr (by decide) (pa_cons (pv 0) (pa_cons (pe_callB call_len_seq rfl (T.free "len" (by decide)) (by decide +kernel) (pa_cons (pv 5) pa_nil)) pa_nil))) (fun _ _ => rfl)) pa_nil)))))
    (pss_one (ps_set (i := 7) sc_l_one.nd rfl (Or.inl rfl) pe_str)))
    pss_nil)
  (pss_cons (ps_if (PW.pt (pw_or (pt_not (pt_val (pe_has h_l_played hr (by decide) (pa_cons (pv 0) (pa_cons (pv 3) (pa_cons (pv 2) (pa_cons (pv 6) (pa_cons (pv 7) pa_nil)))))))) (pw_or1 (pt_not (pt_val (pe_has h_l_doors hr (by decide) (pa_cons (pv 0) (pa_cons (pv 3) (pa_cons (pv 2) (pa_cons (pv 6) pa_nil))))))))))
    (pss_one (ps_ret pe_bl))
    pss_nil)
  (Evl.pss_cut (ps_if (pt_cmpR op_le (pe_callB call_len_seq rfl (T.free "len" (by decide)) (by decide +kernel) (pa_cons (pv 2) pa_nil)) pe_int (nomark _))
    (pss_one (ps_for PassesOwn.never rfl (pi_list (pe_has h_l_all_picks hr (by decide) (pa_cons (pv 1) (pa_cons (pe_callB call_len_seq rfl (T.free "len" (by decide)) (by decide +kernel) (pa_cons (pv 2) pa_nil)) pa_nil)))) (pg_name (i := 8) sc_l_one.nd rfl (Or.inl rfl))
      (pss_cons (ps_set (i := 9) sc_l_one.nd rfl (Or.inl rfl) (pe_has h_l_due hr (by decide) (pa_cons (pv 2) (pa_cons (pv 6) (pa_cons (pv 8) (pa_cons (pe_un un_neg pe_int) pa_nil))))))
      (Evl.pss_cut (ps_if (PW.pt (pw_and (pt_cmpR op_ne (pv 7) pe_str (nomark _)) (pw_and1 (pt_cmpR op_ne (pe_ix ix_list (pv 9) pe_int (fun _ _ => rfl)) (pv 7) (nomark _)))))
        (pss_one (ps_ret pe_bl))
        pss_nil)
      (pss_one (ps_if (pt_not (pt_val (pe_has h_l_same hr (by decide) (pa_cons (pe_has h_l_run hr (by decide) (pa_cons (pv 3) (pa_cons (pv 6) (pa_cons (pv 8) (pa_cons (pe_un un_neg pe_int) (pa_cons pe_int pa_nil)))))) (pa_cons (pv 9) (pa_cons (pv 2) (pa_cons (pv 6) pa_nil)))))))
        (pss_one (ps_ret pe_bl))
        pss_nil))))))
    pss_nil)
  (pss_one (ps_ret (pe_cmpR op_eq (pe_callB (cr_reprD hr hgd) rfl (T.free "repr" (by decide)) (by decide +kernel) (pa_cons (pv 3) pa_nil)) (pv 4) (nomark _))))))))))))))
    , ?_⟩
    refine ⟨_, rfl, hd, rfl, hs, fun m H1 m1 m5 s1 k1 => ?_⟩
    have T1 := tt_kh hT hs k1
    refine ⟨_, rfl, Evl.sz_of (show (2 : Nat) ≤ _ from by decide), fun p np => ⟨_, rfl, hd, _, rfl, s1.new np, by decide, by decide, fun r H2 r0 r1 s2 k2 => ?_⟩⟩
    have hp := k2 _ _ (s1.ne np) upd_same
    have k12 : Kh hd.1 H1 H2 := (Kh.new np).trans k2
    have T2 := tt_kh T1 s1 k12
    obtain ⟨most, q0, q12, hat⟩ : ∃ most : Int, 0 ≤ most ∧ most ≤ 12 ∧ atI [V.int 3, V.int 12] r = some (.int most) := by
      obtain ⟨n, rfl⟩ := Int.eq_ofNat_of_zero_le r0
      have hn : n = 0 ∨ n = 1 := by omega
      rcases hn with e | e <;> subst e
      · exact ⟨3, by decide, by decide, rfl⟩
      · exact ⟨12, by decide, by decide, rfl⟩
    refine ⟨_, _, _, _, rfl, rfl, SqL.of hp, hat, _, rfl, hd, most, m, rfl, s2, q0, q12, m1, m5, fun a H3 cs na s3 k3 hA ah ac ⟨hlen, hin, asc⟩ => ?_⟩
    have T3 := tt_kh T2 s2 k3
    refine ⟨_, rfl, _, rfl, hd, a, cs, rfl, s3, hA, ah, hlen, fun h b H4 ns nh s4 k4 hh perm hhd => ?_⟩
    have T4 := tt_kh T3 s3 k4
    have hA4 := k4 _ _ ah hA
    have hns : ns.length ≤ 12 := by rw [perm.length_eq]; exact hlen
    have hni : In 1 1000000000 ns := hin.perm perm
    obtain ⟨d, hd1, hdp⟩ : ∃ d : PyData, (d = .list (dInts ns) ∨ d = .tuple (dInts ns)) ∧ ∀ {H : Hp}, SqH b H h (ns.map V.int) → Dp K H (.ref h) d := by
      cases b with
      | true => exact ⟨_, .inr rfl, fun {H} e => .tup (SqT.of e) (dp_ints _)⟩
      | false => exact ⟨_, .inl rfl, fun {H} e => .lst (SqL.of e) (dp_ints _)⟩
    obtain ⟨w1, w2, w3, w4⟩ := shows_ints hd1 hns hni
    refine ⟨_, rfl, h, d, rfl, hdp hh, w1, w2, w3, w4, ?_⟩
    refine ⟨_, rfl, _, rfl, a, m, cs, rfl, hA4, m1, m5, hlen, fun pf H5 nf s5 hf => ?_⟩
    have eI : ((failsI m cs cs.length).map fun (k : Nat) => V.int (k : Int)) = ((failsI m cs cs.length).map fun (k : Nat) => (k : Int)).map V.int := by
      rw [List.map_map]
      rfl
    rw [eI] at hf
    have s5' := s4.same s5
    have T5 := T4.ext s5
    have hA5 := s5 _ _ hA4
    have hh5 := hh.same s5
    have pfh := s5'.ints hf
    refine ⟨_, rfl, _, rfl, _, rfl, hd, a, m, cs, rfl, s5', hA5, ah, hlen, hin, m1, m5, fun u H6 W nu s6 k6 hu wl wn ws => ?_⟩
    have T6 := tt_kh T5 s5' k6
    have hA6 := k6 _ _ ah hA5
    have hh6 := hh5.kh k6 hhd
    have hf6 := k6 _ _ pfh hf
    have hfm : ∀ x ∈ (failsI m cs cs.length).map (fun (k : Nat) => (k : Int)), ∃ j : Nat, x = (j : Int) ∧ j ∈ failsI m cs cs.length := fun x hx => by
      obtain ⟨j, hj, rfl⟩ := List.mem_map.mp hx
      exact ⟨j, rfl, hj⟩
    have hfn : (failsI m cs cs.length).map (fun (k : Nat) => (k : Int)) = [] → failsI m cs cs.length = [] := fun z => List.map_eq_nil_iff.mp z
    have hfl : ((failsI m cs cs.length).map (fun (k : Nat) => (k : Int))).length ≤ 12 := by
      rw [List.length_map]
      exact Nat.le_trans (failsI_len _ _ _) hlen
    generalize (failsI m cs cs.length).map (fun (k : Nat) => (k : Int)) = fI at hf hf6 hfm hfn hfl
    refine ⟨fun σ H7 => ∃ ends : Str, σ = [some (.ref hd.1), some (.int m), some (.ref a), some (.ref h), some (.str d.shown), some (.ref pf), some (.ref u), some (.str ends), none, none] ∧ Same H6 H7 ∧ Ends ends cs W, ?_, ?_⟩
    · refine ⟨_, rfl, Evl.sz_of (show (0 : Nat) ≤ _ from by decide), fun e0 ne0 => ?_⟩
      refine ⟨.list (dInts fI), .list [], .lst (SqL.of (Same.new ne0 _ _ hf6)) (dp_ints _), .lst (SqL.of upd_same) .nil, (Fl.list (k := 1) (fl_ints fI)).shaped (by decide), (Fl.list (k := 1) (xs := []) (by simp)).shaped (by decide), _, rfl, ?_⟩
      rw [eqv_nil]
      by_cases hnil : fI = []
      · rw [decide_eq_true hnil]
        exact ⟨_, rfl, Same.new ne0, ends_split (hfn hnil) wl ws wn asc⟩
      · rw [decide_eq_false hnil]
        exact ⟨_, rfl, Same.new ne0, ends_none cs W⟩
    · rintro σ H7 ⟨ends, rfl, z7, hE⟩
      have s7 := s6.same z7
      refine ⟨fun σ H8 => ∃ (u : Addr) (W : List Int) (ends : Str), σ = [some (.ref hd.1), some (.int m), some (.ref a), some (.ref h), some (.str d.shown), some (.ref pf), some (.ref u), some (.str ends), none, none] ∧ St hd H8 ∧ Kh hd.1 H6 H8 ∧ H8 u = some (.tup (W.map V.int)) ∧ (W.length : Int) = m ∧ (∀ x ∈ W, 0 ≤ x) ∧ W.sum = cs.sum ∧ Ends ends cs W, ?_, ?_⟩
      · refine ⟨_, rfl, Evl.sz_of (show (0 : Nat) ≤ _ from by decide), fun e0 ne0 => ?_⟩
        have z8 : Same H7 (upd H7 e0 (.lst [])) := Same.new ne0
        refine ⟨.list (dInts fI), .list [], .lst (SqL.of (z8 _ _ (z7 _ _ hf6))) (dp_ints _), .lst (SqL.of upd_same) .nil, (Fl.list (k := 1) (fl_ints fI)).shaped (by decide), (Fl.list (k := 1) (xs := []) (by simp)).shaped (by decide), _, rfl, ?_⟩
        rw [eqv_nil]
        have s8 := s7.same z8
        have k8 : Kh hd.1 H6 (upd H7 e0 (.lst [])) := Kh.of (z7.trans z8)
        generalize upd H7 e0 (.lst []) = H8 at s8 k8
        by_cases hnil : fI = []
        · rw [decide_eq_true hnil]
          exact ⟨u, W, ends, rfl, s8, k8, k8.tup s6 hu, wl, wn, ws, hE⟩
        · rw [decide_eq_false hnil]
          refine ⟨_, rfl, hd, _, rfl, s8, by decide, by decide, fun r H9 r0 r1 s9 k9 => ⟨_, rfl, ?_⟩⟩
          have k69 := k8.trans k9
          cases hb : (r != 0) with
          | true =>
            have hpos : 0 < fI.length := by
              cases fI with
              | nil => exact absurd rfl hnil
              | cons x y => exact Nat.succ_pos _
            have hf9 := k69 _ _ pfh hf6
            refine ⟨_, rfl, _, rfl, _, rfl, _, rfl, _, rfl, pf, _, rfl, .inl (SqL.of hf9), hd, _, rfl, s9, by rw [List.length_map]; omega, by rw [List.length_map]; omega, fun r2 H10 r20 r21 s10 k10 => ?_⟩
            have k610 := k69.trans k10
            obtain ⟨n, rfl⟩ := Int.eq_ofNat_of_zero_le r20
            rw [List.length_map] at r21
            have hn : n < fI.length := by omega
            obtain ⟨j, ej, hj⟩ := hfm _ (List.getElem_mem hn)
            obtain ⟨q1, q2, q3, q4⟩ := hard_ok m1 m5 asc hin hj
            refine ⟨pf, _, _, .int (j : Int), rfl, rfl, SqL.of (k610 _ _ pfh hf6), atI_nat (by rw [List.getElem?_map, List.getElem?_eq_getElem hn, ej] <;> rfl), a, m, j, cs, rfl, k610 _ _ ah hA6, m1, m5, hlen, fun u2 H11 nu2 s11 hu2 => ?_⟩
            exact ⟨u2, _, _, rfl, s10.same s11, k610.trans (Kh.of s11), hu2, q1, q2, q3, q4⟩
          | false => exact ⟨u, W, ends, rfl, s9, k69, k69.tup s6 hu, wl, wn, ws, hE⟩
      · clear hE wl wn ws hu nu
        rintro σ H8 ⟨u, W, ends, rfl, s8, k8, hu, wl, wn, ws, hE⟩
        have T8 := tt_kh T6 s6 k8
        have hh8 := hh6.kh k8 hhd
        have hA8 := k8 _ _ ah hA6
        have G8 : Given H8 hd h a u ns cs W := ⟨⟨h, b, rfl, hh8, hns, hni⟩, perm.symm, asc, hhd, hA8, hu, hlen, hin, by omega, by omega, wn, ws⟩
        refine ⟨_, rfl, _, rfl, _, rfl, _, rfl, _, rfl, hd, h, a, u, ns, cs, W, ends, rfl, s8, T8, G8, hE, fun H9 s9 T9 k9 => ⟨_, rfl, ?_⟩⟩
        have G9 := G8.kt s8 k9
        refine ⟨_, rfl, _, rfl, _, rfl, _, rfl, hd, h, a, u, ns, cs, W, rfl, s9, T9, G9, fun H10 s10 T10 k10 => ⟨_, rfl, ?_⟩⟩
        have G10 := G9.kt s9 k10
        have hh10 := (hh8.kt k9 hhd).kt k10 hhd
        refine ⟨fun σ H11 => ∃ x8 x9 : Option V, σ = [some (.ref hd.1), some (.int m), some (.ref a), some (.ref h), some (.str d.shown), some (.ref pf), some (.ref u), some (.str ends), x8, x9] ∧ ExtN H10 H11 ∧ TabsN (TT Pr Pa Pd) H11, ?_, ?_⟩
        · refine ⟨_, rfl, a, _, rfl, .inl (SqL.of G10.ha), _, _, rfl, rfl, _, rfl, ?_⟩
          refine if_dec (fun c3 => ?_) fun c3 => ?_
          · rw [List.length_map] at c3
            refine ⟨_, rfl, _, rfl, a, _, rfl, .inl (SqL.of G10.ha), m, _, rfl, m1, m5, by rw [List.length_map]; omega, by rw [List.length_map]; omega, fun pr H11 rs z11 hpr hrs => ?_⟩
            refine ⟨pr, rfl, ⟨_, SqL.of hpr⟩, for_list (K := K) (a := pr) (xs := rs.map V.ref) (fun i σ H12 => ∃ x8 x9 : Option V, σ = [some (.ref hd.1), some (.int m), some (.ref a), some (.ref h), some (.str d.shown), some (.ref pf), some (.ref u), some (.str ends), x8, x9] ∧ ExtN H11 H12 ∧ TabsN (TT Pr Pa Pd) H12)
              ⟨none, none, rfl, ExtN.refl _, T10.ext z11⟩ (fun i σ H12 _ ⟨_, _, _, e12, _⟩ => SqL.of (e12 _ _ hpr (fun ps z => by cases z))) ?_ ?_⟩
            · rintro i v σ H12 hi ⟨x8, x9, rfl, e12, T12⟩
              obtain ⟨q, hqi, rfl⟩ := at_map hi
              obtain ⟨picks, hq, hpl⟩ := hrs q (List.mem_of_getElem? hqi)
              rw [List.length_map, Int.toNat_natCast] at hpl
              have e1012 : ExtN H10 H12 := (ExtN.of z11).trans e12
              have G12 := G10.kt s10 (Kt.ext e1012)
              have hq12 := e12 _ _ hq (fun ps z => by cases z)
              generalize hr0 : play (ansD picks (-1)) cs W = r0
              have gd : Good W cs r0.1 := by
                rw [← hr0]
                exact good_d G12.sum G12.wnn G12.asc
              refine ⟨_, rfl, _, rfl, _, rfl, _, rfl, a, u, q, -1, cs, W, picks, rfl, G12.ha, G12.hu, hq12, hlen, hpl, G12.w5, fun p x ca ts H3 np z3 d3 => ?_⟩
              rw [hr0] at d3
              have T3 := T12.ext z3
              have e3 : ExtN H10 H3 := e1012.trans (ExtN.of z3)
              have G3 := G10.kt s10 (Kt.ext e3)
              refine ⟨fun σ H' => σ = [some (.ref hd.1), some (.int m), some (.ref a), some (.ref h), some (.str d.shown), some (.ref pf), some (.ref u), some (.str ends), some (.ref q), some (.ref p)] ∧ H' = H3, ?_, ?_⟩
              · refine ⟨_, rfl, rfl, _, rfl, ?_⟩
                rcases hE picks hpl with he | he
                · rw [he]
                  exact ⟨rfl, rfl⟩
                · by_cases h0 : ends = ""
                  · rw [h0]
                    exact ⟨rfl, rfl⟩
                  · rw [decide_eq_false (show ¬ V.str ends = V.str "" from fun z => h0 (by injection z))]
                    refine ⟨_, rfl, p, _, _, _, rfl, rfl, SqL.of d3.hp, atI_nat (j := 0) rfl, _, rfl, rfl, _, rfl, ?_⟩
                    rw [hr0] at he
                    rw [decide_eq_true (show V.str (kindS r0.1) = V.str ends by rw [he])]
                    exact ⟨rfl, rfl⟩
              · rintro σ H' ⟨rfl, rfl⟩
                have aok : AmtOk H' (.ref u) W := ⟨u, true, rfl, G3.hu, G3.w1, G3.w5, G3.wc⟩
                have wsum : W.sum = ns.sum := by rw [ws, sum_perm perm.symm]
                refine ⟨_, rfl, _, rfl, _, rfl, _, rfl, .ref h, .ref u, q, -1, .int 0, ns, cs, W, picks, r0, "int", rfl, G3.pool, G3.perm, G3.asc, aok, wsum, z3 _ _ hq12, by omega, rfl, (runs_eq W _ hpl).trans hr0, good_lost gd, T3, fun p5 x5' ca5 ts5 H5 np5 e5 T5 d5 => ?_⟩
                have G5 := G3.kt (s10.ext e3) (Kt.ext e5)
                refine ⟨_, rfl, _, rfl, _, rfl, p5, p, a, u, ca5, ca, _, _, ts5, ts, cs, W, r0, rfl, d5, d3.ext e5, G5.ha, G5.hu, gd, G5.asc, hlen, G5.w5, fun H6 z6 => ?_⟩
                exact ⟨_, rfl, _, _, rfl, (e12.trans (ExtN.of z3)).trans (e5.trans (ExtN.of z6)), T5.ext z6⟩
            · rintro σ H12 ⟨x8, x9, rfl, e12, T12⟩
              exact ⟨_, _, rfl, (ExtN.of z11).trans e12, T12⟩
          · exact ⟨none, none, rfl, ExtN.refl _, T10⟩
        · rintro σ H11 ⟨x8, x9, rfl, e11, T11⟩
          have hh11 := hh10.ext e11
          refine ⟨_, rfl, h, d, rfl, hdp hh11, w1, w2, w3, w4, _, rfl, ?_⟩
          refine ⟨rfl, ?_⟩
          rw [decide_eq_true rfl]
          exact k H11 (s10.ext e11) T11
def spLaw (K : PySem.W.Frag) (Pr Pa Pd : Addr) : Sp := fun vs H Q _ => ∃ (a : Addr) (ns : List Int), vs = [.ref a] ∧ SqL K H a (ns.map V.int) ∧ ns.length ≤ 63 ∧ TabsN (TT Pr Pa Pd) H ∧ ∀ H', Q (.bl true) H'
theorem h_lawd {f : Addr} {fd : FuncData} (F : FunD K "law" "law" (defArgs (top 65)) (defBody (top 65)) (defScope (top 65)) [] [] f fd) (T : Txt K mg) (R : Ers P K mg) (C : Cts K mg) (Tb : Tbl K mg base Pr Pa Pd) (noTup : PySem.W.kitOne K (.type "tuple") (.ref (cC K "Stuck")) = some false) : FnG P w K mg base 13 f fd P_lawd (spLaw K Pr Pa Pd) := by
  have h_l_hand := h_l_hand (P := P) (w := w) (base := base) T
  have h_l_one := h_l_one (w := w) T R C Tb noTup
  refine fnG_of F sc_lawd (fun vs H Q E h => ?_) fun cdv A gA outer s H vs Q E hr h => ?_
  · obtain ⟨_, _, rfl, _⟩ := h
    rfl
  · obtain ⟨a, ns, rfl, hq, hl, hT, k⟩ := h
    have hgd : (A.deeper (envOfC "law" (defScope (top 65)) s.heap.objs.size f cdv)).guards = some [] := gA
    refine ⟨_, PSs.nox (pss_cons (ps_set (i := 1) sc_lawd.nd rfl (Or.inl rfl) (pe_has h_l_hand hr (by decide) (pa_cons (pv 0) pa_nil)))
  (pss_cons (ps_for PassesOwn.never rfl (pi_range1 rfl (T.free "range" (by decide)) (pa_cons pe_int pa_nil)) (pg_name (i := 2) sc_lawd.nd rfl (Or.inl rfl))
    (pss_one (ps_if (pt_not (pt_val (pe_hasG h_l_one hgd hr (by decide) (pa_cons (pv 1) pa_nil))))
      (pss_one (ps_ret pe_bl))
      pss_nil)))
  (pss_one (ps_ret pe_bl))))
    , ?_⟩
    refine ⟨_, rfl, a, ns, rfl, hq, hl, fun hd H1 s1 z1 nh => ?_⟩
    refine ⟨2, rfl, by decide, by decide, for_range (lo := 0) (n := 2) (fun i σ H2 => ∃ x2 : Option V, σ = [some (.ref a), some (.ref hd.1), x2] ∧ St hd H2 ∧ TabsN (TT Pr Pa Pd) H2) ⟨none, rfl, s1, hT.ext z1⟩ ?_ ?_⟩
    · rintro i σ H2 hi ⟨x2, rfl, s2, T2⟩
      exact ⟨_, rfl, hd, rfl, s2, T2, fun H3 s3 T3 => ⟨_, rfl, _, rfl, s3, T3⟩⟩
    · rintro σ H2 ⟨x2, rfl, s2, T2⟩
      exact k H2
end
end K12

set_option Elab.async false
set_option linter.all false
set_option maxRecDepth 100000
set_option maxHeartbeats 4000000
/-! What the top leaves, read off a part of the heap by one look. -/
namespace K12
open PySem PySem.Spec PyProof.Rows L2 He
abbrev Rw : PySem.W.OpenRow := PySem.W.OpenLaw.row PySem.Challenge.rw_anyworths_k12_whole_any_hand_goes
def zD (d : Str × Nat) : DefD := ⟨(d.1, none), d.1, d.1, defArgs (top d.2), defBody (top d.2), defScope (top d.2), [], []⟩
def zM (C q : Str) (st : Stmt) : DefD := ⟨(C, some "__init__"), "__init__", q, defArgs st, defBody st, defScope st, [], []⟩
def zX : List DefD := [⟨("check_people", none), "check_people", "check_people", defArgs (top 15), defBody (top 15), defScope (top 15), [.int 1], []⟩, zM "Stuck" "Stuck.__init__" (inClass (top 23) 0), zM "Unserved" "Unserved.__init__" (inClass (top 27) 0),
  zM "BadChoice" "BadChoice.__init__" (inClass (top 5) 0), zM "BadLost" "BadLost.__init__" (inClass (top 6) 0)]
def zFn : List DefD := places.map zD ++ zX
def errs : List Str := ["PurseError", "BadPool", "BadPeople", "BadWish", "BadChoice", "BadLost"]
def errs5 : List Str := ["BadPool", "BadPeople", "BadWish", "BadChoice", "BadLost"]
def zFc : List Fa := [.glo "check_people", .glo "Stuck", .glo "Unserved", .int "MOST_COINS" 12, .int "MOST_WORTH" 1000000000, .int "MOST_PEOPLE" 5, .int "MOST_AMOUNT" 12000000000, .cls "Stuck", .noat "Stuck" "coin", .noat "Stuck" "lacks", .mkr "Stuck", .cls "Unserved", .noat "Unserved" "place", .noat "Unserved" "wish", .mkr "Unserved", .exc "BadPeople"]
def zFa : List Fa := zFc ++ (places.map (fun d => Fa.glo d.1) ++ (freeNames.map Fa.free ++ errs.map Fa.glo))
def zTab : List Defn := [("_law_run", none), ("_law_raised_at", none), ("_law_door", none)]
/-! ### own errors -/
def bOex (K : PySem.W.Frag) (C : Addr) : Bool := match K.lookup C with
  | some ⟨.type ty, _, .cls cd, sl⟩ => (match cd.mro, sl.toList with
    | .ref C' :: bm, [_, _, _, _, some (.builtin n), _] => decide (ty = "type") && (decide (C' = C) && (decide (n = "ValueError.__new__") && (cd.hasDict && (!cd.hasDel && (PySem.HandSPX.refsVE bm && (decide (PySem.W.findIn K (.ref C) "__setattr__" = some (some (.builtin "object.__setattr__"))) &&
      (decide (PySem.W.subIn K (.ref C) (.type "BaseException") = some true) && (decide (PySem.W.typeIn K (.ref C) = some (.type "type")) && PySem.W.keepIn K (.ref C)))))))))
    | _, _ => false)
  | _ => false
theorem bOex_ok {K : PySem.W.Frag} {C : Addr} (h : bOex K C = true) : OexC K C := by
  unfold bOex at h
  split at h
  · rename_i ty dd cd sl hk
    split at h
    · rename_i C' bm k0 k1 k2 k3 n k5 hm hs
      obtain ⟨h0, h⟩ := ba h
      obtain ⟨h1, h⟩ := ba h
      obtain ⟨h2, h⟩ := ba h
      obtain ⟨h3, h⟩ := ba h
      obtain ⟨h4, h⟩ := ba h
      obtain ⟨h5, h⟩ := ba h
      obtain ⟨h6, h⟩ := ba h
      obtain ⟨h7, h⟩ := ba h
      obtain ⟨h8, h9⟩ := ba h
      refine ⟨?_, of_decide_eq_true h6, of_decide_eq_true h7, of_decide_eq_true h8, h9⟩
      obtain ⟨nm, bs, mro, ns, qn, hd, sn, sub, ab, col, del⟩ := cd
      have e0 := of_decide_eq_true h0
      have e1 := of_decide_eq_true h1
      have e2 := of_decide_eq_true h2
      have e3 : hd = true := h3
      have e4 : del = false := by
        cases del with
        | false => rfl
        | true => cases h4
      have em : mro = .ref C' :: bm := hm
      have es : sl = #[k0, k1, k2, k3, some (.builtin n), k5] := by
        obtain ⟨l⟩ := sl
        have hs : l = _ := hs
        rw [hs]
      subst e0 e1 e2 e3 e4 em es
      exact ⟨_, _, _, _, _, _, _, _, _, _, _, _, _, _, _, hk, h5⟩
    · cases h
  · cases h
def bIn (K : PySem.W.Frag) (x : Str) : Bool := decide (PySem.W.findIn K (.ref (cC K x)) "__init__" = some (some (.ref (cI K x)))) && decide (PySem.W.typeIn K (.ref (cI K x)) = some (.type "function"))
def bSup (K : PySem.W.Frag) (x q : Str) : Bool := match K.lookup (cI K x) with
  | some ⟨_, _, .func fd, _⟩ => (match fd.closure, fd.defaults, fd.code with
    | [(nm, cc)], .none, .ref cda => decide (nm = "__class__") && (PySem.W.codeIn K (.ref cda) q && ((match K.lookup cda with
      | some ⟨_, _, .fields vs, _⟩ => (match (vs[2]? : Option Value) with
        | some (.str file _) => (Rw.prog.main.file : Str) == file
        | _ => false)
      | _ => false) && (match K.lookup cc with
      | some ⟨_, _, .cell (some (.ref C)), _⟩ => decide (C = cC K x)
      | _ => false)))
    | _, _, _ => false)
  | _ => false
abbrev FnS : Type := Option (Str × Str × Arguments × FuncBody × Scope × Addr × Addr)
def fnS (K : PySem.W.Frag) (x : Str) : FnS := match K.lookup (cI K x) with
  | some ⟨_, _, .func fd, _⟩ => some (fd.name, fd.qualname, fd.params, fd.body, fd.scope, fd.globals, fd.builtins)
  | _ => none
def vS (q : Str) (st : Stmt) : FnS := some ("__init__", q, defArgs st, .stmts (defBody st), defScope st, mainGlobals, builtinsNs)
def bSupC (K : PySem.W.Frag) (x : Str) : Bool := decide (PySem.W.findIn K (.ref (cC K x)) "place" = some none) && (decide (PySem.W.findIn K (.ref (cC K x)) "what" = some none) && (decide (PySem.W.mroIn K (cC K x) (.ref (cC K x)) = some true) && (decide (PySem.W.nsIn K cStatics "thirdparty.any" = some none) &&
  (decide (PySem.W.ks_superIn K (cC K x) (cC K x) "__init__" = some (some (.builtin "ValueError.__init__"))) && decide (PySem.W.subIn K (.ref (cC K x)) (.type "ValueError") = some true)))))
theorem bSup_ok {K : PySem.W.Frag} {x q : Str} {st : Stmt} (ho : bOex K (cC K x) = true) (hi : bIn K x = true) (h : bSup K x q = true) (hv : fnS K x = vS q st) (hc : bSupC K x = true) : K12X.SupTxt Rw.prog K (cC K x) (cI K x) q st := by
  obtain ⟨i1, i2⟩ := ba hi
  obtain ⟨c1, c⟩ := ba hc
  obtain ⟨c2, c⟩ := ba c
  obtain ⟨c3, c⟩ := ba c
  obtain ⟨c4, c⟩ := ba c
  obtain ⟨c5, c6⟩ := ba c
  refine ⟨bOex_ok ho, of_decide_eq_true c1, of_decide_eq_true c2, of_decide_eq_true i1, of_decide_eq_true i2, ?_, of_decide_eq_true c3, of_decide_eq_true c4, of_decide_eq_true c5, of_decide_eq_true c6⟩
  unfold bSup at h
  unfold fnS at hv
  split at h
  · rename_i oc od fd osl hk
    rw [hk] at hv
    split at h
    · rename_i nm cc cda h1 h2 h3
      obtain ⟨e1, h⟩ := ba h
      obtain ⟨e2, h⟩ := ba h
      obtain ⟨e3, e4⟩ := ba h
      obtain ⟨n1, n2, n3, n4, n5, n6, n7, n8, n9, n10, n11, n12, n13, n14, n15⟩ := fd
      have v2 : (some (n1, n2, n3, n4, n5, n6, n15) : FnS) = vS q st := hv
      unfold vS at v2
      simp only [Option.some.injEq, Prod.mk.injEq] at v2
      obtain ⟨v1, v2, v3, v4, v5, v6, v7⟩ := v2
      have h1 : n7 = [(nm, cc)] := h1
      have h2 : n8 = .none := h2
      have h3 : n13 = .ref cda := h3
      have e1 := of_decide_eq_true e1
      subst v1 v2 v3 v4 v5 v6 v7 h1 h2 h3 e1
      split at e3
      · rename_i ccl cdd vs ccs hcd
        split at e3
        · rename_i file tf hvs
          split at e4
          · rename_i cl cld C csl hcc
            have e5 := of_decide_eq_true e4
            rw [e5] at hcc
            exact ⟨_, _, _, _, _, _, _, _, _, cc, vs, file, tf, _, _, _, _, _, _, hk, e2, hcd, hvs, e3, hcc⟩
          · cases e4
        · cases e3
      · cases e3
    · cases h
  · cases h
def exB (K : PySem.W.Frag) : Bool :=
  bOex K (cC K "BadPool") && (bOex K (cC K "BadWish") && (bOex K (cC K "BadChoice") && (bOex K (cC K "BadLost") && (bIn K "BadPool" && (bIn K "BadWish" && (bIn K "BadChoice" && (bIn K "BadLost" &&
  (bSup K "BadPool" "BadPool.__init__" && (bSup K "BadWish" "BadWish.__init__" && (bSupC K "BadPool" && (bSupC K "BadWish" &&
  (decide (PySem.W.specialIn K (.ref (cC K "PurseError")) "__getattribute__" = some (some (.builtin "type.__getattribute__"))) && (PySem.W.readsIn K (cC K "PurseError") (.type "type") && (bNm K && (decide (PySem.W.findIn K (.ref (cC K "BadChoice")) "place" = some none) &&
  (xfB K (cC K "BadPool") && (xfB K (cC K "BadWish") && (xfB K (cC K "BadChoice") && ((errs5.all fun x => errs5.all fun y => decide (PySem.W.exmOne K (.ref (cC K x)) (.ref (cC K y)) = some (decide (x = y)))) &&
  (decide (PySem.W.findIn K (.ref (cC K "Stuck")) "__class__" = some (some (.builtin "object.__class__"))) && (decide (PySem.W.specialIn K (.builtin "object.__class__") "__get__" = some (some (.builtin "getset_descriptor.__get__"))) && (decide (PySem.W.takesIn K (.builtin "object.__class__") = some true) &&
  (decide (PySem.W.mroIn K (cC K "Stuck") (.type "object") = some true) && (decide (PySem.W.kitOne K (.ref (cC K "Stuck")) (.ref (cC K "Stuck")) = some true) && (decide (PySem.W.kitOne K (.type "tuple") (.ref (cC K "Stuck")) = some false) &&
  (decide ((cT K ("_law_run", none)).2 ≠ (cT K ("_law_raised_at", none)).2) && (decide ((cT K ("_law_run", none)).2 ≠ (cT K ("_law_door", none)).2) && decide ((cT K ("_law_raised_at", none)).2 ≠ (cT K ("_law_door", none)).2))))))))))))))))))))))))))))
where bNm (K : PySem.W.Frag) : Bool := match PySem.W.findCls K (.ref (cC K "PurseError")) (.type "type") "__init__" with
  | some (.val (.builtin n)) => decide (n = "ValueError.__init__")
  | _ => false
/-! ### the look -/
def KZ (g : Addr → Option Obj) : PySem.W.Frag := frT g (asD g 5 ++ [cStatics])
def vSs : List FnS := [vS "BadPool.__init__" (inClass (top 2) 0), vS "BadWish.__init__" (inClass (top 4) 0)]
abbrev AlZ : Type := AlX × List FnS
def obsZ (g : Addr → Option Obj) : AlZ := ((obsT zFa zFn [] (KZ g), exB (KZ g) && tabsB g zTab (KZ g)), [fnS (KZ g) "BadPool", fnS (KZ g) "BadWish"])
def valZ (w : World) : AlZ := (valX zFn [] w, vSs)
structure SaysZ (w : World) (h : Heap) (K : PySem.W.Frag) : Prop where
  x : SaysX zFa zFn [] zTab exB w h K
  s1 : fnS K "BadPool" = vS "BadPool.__init__" (inClass (top 2) 0)
  s2 : fnS K "BadWish" = vS "BadWish.__init__" (inClass (top 4) 0)
theorem saysZ_of {w : World} {h : Heap} (e : obsZ h.get? = valZ w) : SaysZ w h (KZ h.get?) := by
  obtain ⟨e1, e2⟩ := Prod.mk.inj e
  obtain ⟨e3, e4⟩ := Prod.mk.inj e1
  obtain ⟨b1, b2⟩ := ba e4
  have each : ∀ p ∈ zTab, PySem.W.codeHdIn (KZ h.get?) (cT (KZ h.get?) p).1 (cT (KZ h.get?) p).2 = true ∧ ∃ o, h.get? (cT (KZ h.get?) p).2 = some o ∧ emptyTab o = true := fun p hp => by
    obtain ⟨t1, t2⟩ := ba (List.all_eq_true.mp b2 p hp)
    refine ⟨t1, ?_⟩
    split at t2
    · rename_i o ho
      exact ⟨o, ho, t2⟩
    · cases t2
  refine ⟨⟨e3, b1, fun p hp => (each p hp).1, fun p hp => ?_, fun p hp => ?_⟩, ?_, ?_⟩
  · obtain ⟨_, o, ho, hz⟩ := each p hp
    exact frT_none ho hz
  · obtain ⟨_, o, ho, hz⟩ := each p hp
    rw [ho, emptyTab_eq hz]
  · exact (List.cons.inj e2).1
  · exact (List.cons.inj (List.cons.inj e2).2).1
def hookZ : PySem.W.Hook where
  α := AlZ
  obs := fun s => obsZ s.heap.get?
  val := valZ
  says := fun w h => ∃ K : PySem.W.Frag, K.In h ∧ SaysZ w h K
  of := fun _ _ e => ⟨_, frT_in, saysZ_of e⟩
  keeps := fun _ _ _ ⟨K, hK, c⟩ k => ⟨K, PySem.W.Frag.In.keeps hK k, ⟨⟨c.x.t, c.x.more, c.x.hd, c.x.out, fun p hp => k _ _ (c.x.empty p hp)⟩, c.s1, c.s2⟩⟩
def obZ (s : PySem.W.SharedT) : AlZ := obsZ (HandSHeadRun.getT s)
theorem obZ_eq (s : PySem.W.SharedT) : obZ s = hookZ.obs s.abs := by
  have e : HandSHeadRun.getT s = s.abs.heap.get? := funext (HandSHeadRun.getT_eq s)
  unfold obZ
  rw [e]
  rfl
def loose1 : List Str := ["__name__", "PurseError", "BadPool", "BadPeople", "BadWish", "BadChoice", "BadLost", "MOST_COINS", "MOST_WORTH", "MOST_PEOPLE", "MOST_AMOUNT", "is_whole", "is_sequence", "check_pool", "check_people", "checked_amounts", "check_wish", "checked_couple", "may_take", "hand_out", "Stuck", "lacks_room", "unserved_fault", "Unserved"]
def loose2 : List Str := ["_law_hand", "_law_stirred", "_law_take", "_law_whole", "_law_up", "_law_people", "_law_room", "_law_rising", "_law_spoilt", "_law_small", "_law_great", "_law_pool", "_law_given", "_law_fails", "_law_parts", "_law_hard_wish", "_law_drawn_split", "_law_drawn_wish"]
def loose3 : List Str := ["_law_any_wish", "_law_listed", "_law_numbers", "_law_is_split", "_law_able", "_law_due", "_law_run", "_law_wrong_choice", "_law_raised_at", "_law_wrong_pool", "_law_wrong_wish", "_law_door", "_law_doors", "_law_same", "_law_played", "_law_all_picks", "_law_longer", "_law_one"]
def loose : List Str := loose1 ++ (loose2 ++ loose3)
end K12

set_option Elab.async false
set_option linter.all false
set_option maxRecDepth 100000
set_option maxHeartbeats 0
/-! The top runs, and is seen as told. -/
namespace K12
open PySem PySem.Spec PyProof.Rows L2
theorem run (w : World) : HandSHeadRun.RunEq Rw (PySem.W.view Rw.prog [65]) hookZ obZ 4000 loose w := by
  intro os
  kernel_rfl
end K12

set_option Elab.async false
set_option linter.all false
set_option maxRecDepth 100000
set_option maxHeartbeats 4000000
/-! What was seen, as the walks want it. -/
namespace K12
open PySem PySem.Spec PyProof.Rows L2 He
section
variable {w : World} {h : Heap} {K : PySem.W.Frag} {mg : Str → Option Value}
theorem mem_fc {f : Fa} (h : f ∈ zFc) : f ∈ zFa := List.mem_append_left _ h
theorem mem_gl {d : Str × Nat} (h : d ∈ places) : Fa.glo d.1 ∈ zFa := List.mem_append_right _ (List.mem_append_left _ (List.mem_map.mpr ⟨d, h, rfl⟩))
theorem mem_fr {x : Str} (h : x ∈ freeNames) : Fa.free x ∈ zFa := List.mem_append_right _ (List.mem_append_right _ (List.mem_append_left _ (List.mem_map.mpr ⟨x, h, rfl⟩)))
theorem mem_er {x : Str} (h : x ∈ errs) : Fa.glo x ∈ zFa := List.mem_append_right _ (List.mem_append_right _ (List.mem_append_right _ (List.mem_map.mpr ⟨x, h, rfl⟩)))
theorem txt_of (c : SaysZ w h K) (X : K.In h) (G : h.Ns mainGlobals mg) : Txt K mg := by
  have d := c.x.t.d
  refine ⟨fun x hx => free_ok X G (d.facts (mem_fr hx)), fun p hp => ?_, ?_, int_ok X G (d.facts (mem_fc (by simp [zFc]))), int_ok X G (d.facts (mem_fc (by simp [zFc]))), int_ok X G (d.facts (mem_fc (by simp [zFc]))), int_ok X G (d.facts (mem_fc (by simp [zFc])))⟩
  · obtain ⟨fd, F⟩ := d.defs (d := zD p) (List.mem_append_left _ (List.mem_map.mpr ⟨p, hp, rfl⟩))
    exact ⟨_, fd, glo_ok X G (d.facts (mem_gl hp)), F⟩
  · obtain ⟨fd, F⟩ := d.defs (d := zX[0]) (List.mem_append_right _ (by simp [zX]))
    exact ⟨_, fd, glo_ok X G (d.facts (mem_fc (f := .glo "check_people") (by simp [zFc]))), F⟩
theorem own_of {x q : Str} {st : Stmt} (ho : bOex K (cC K x) = true) (hi : bIn K x = true) (F : ∃ fd, FunD K "__init__" q (defArgs st) (defBody st) (defScope st) [] [] (cI K x) fd) : K12X.OwnTxt K (cC K x) (cI K x) q st := by
  obtain ⟨i1, i2⟩ := ba hi
  obtain ⟨fd, F⟩ := F
  obtain ⟨oc, od, dV, kV, doc, pm, an, cdv, ct, osl, rfl, lk, hcd, hdv, _⟩ := F.ex
  have e : dV = .none := by
    rcases hdv with ⟨_, e⟩ | ⟨n, _⟩
    · exact e
    · exact absurd rfl n
  subst e
  exact ⟨bOex_ok ho, of_decide_eq_true i1, of_decide_eq_true i2, oc, od, kV, doc, pm, an, cdv, ct, osl, lk, hcd⟩
theorem ct_of {x f1 f2 : Str} {st : Stmt} (d : SaysD zFa zFn K) (X : K.In h) (G : h.Ns mainGlobals mg) (g : Fa.glo x ∈ zFa) (cl : Fa.cls x ∈ zFa) (n1 : Fa.noat x f1 ∈ zFa) (n2 : Fa.noat x f2 ∈ zFa) (mk : Fa.mkr x ∈ zFa)
    (F : ∃ fd, FunD K "__init__" (x ++ ".__init__") (defArgs st) (defBody st) (defScope st) [] [] (cI K x) fd) : Ct K mg x f1 f2 st :=
  ⟨glo_ok X G (d.facts g), cls_ok (d.facts cl), noat_ok (d.facts n1), noat_ok (d.facts n2), mkr_ok (d.facts mk), F⟩
theorem all_of (c : SaysZ w h K) (X : K.In h) (G : h.Ns mainGlobals mg) : Txt K mg ∧ Ers Rw.prog K mg ∧ Cts K mg ∧ PySem.W.kitOne K (.type "tuple") (.ref (cC K "Stuck")) = some false ∧
    (cT K ("_law_run", none)).2 ≠ (cT K ("_law_raised_at", none)).2 ∧ (cT K ("_law_run", none)).2 ≠ (cT K ("_law_door", none)).2 ∧ (cT K ("_law_raised_at", none)).2 ≠ (cT K ("_law_door", none)).2 := by
  have d := c.x.t.d
  have T := txt_of c X G
  obtain ⟨o1, z⟩ := ba c.x.more
  obtain ⟨o2, z⟩ := ba z
  obtain ⟨o3, z⟩ := ba z
  obtain ⟨o4, z⟩ := ba z
  obtain ⟨i1, z⟩ := ba z
  obtain ⟨i2, z⟩ := ba z
  obtain ⟨i3, z⟩ := ba z
  obtain ⟨i4, z⟩ := ba z
  obtain ⟨s1, z⟩ := ba z
  obtain ⟨s2, z⟩ := ba z
  obtain ⟨t1, z⟩ := ba z
  obtain ⟨t2, z⟩ := ba z
  obtain ⟨b1, z⟩ := ba z
  obtain ⟨b2, z⟩ := ba z
  obtain ⟨b3, z⟩ := ba z
  obtain ⟨np, z⟩ := ba z
  obtain ⟨x1, z⟩ := ba z
  obtain ⟨x2, z⟩ := ba z
  obtain ⟨x3, z⟩ := ba z
  obtain ⟨ex, z⟩ := ba z
  obtain ⟨k1, z⟩ := ba z
  obtain ⟨k2, z⟩ := ba z
  obtain ⟨k3, z⟩ := ba z
  obtain ⟨k4, z⟩ := ba z
  obtain ⟨k5, z⟩ := ba z
  obtain ⟨k6, z⟩ := ba z
  obtain ⟨d1, z⟩ := ba z
  obtain ⟨d2, d3⟩ := ba z
  have C1 : Ct K mg "Stuck" "coin" "lacks" (inClass (top 23) 0) := ct_of d X G (mem_fc (by simp [zFc])) (mem_fc (by simp [zFc])) (mem_fc (by simp [zFc])) (mem_fc (by simp [zFc])) (mem_fc (by simp [zFc])) (d.defs (d := zM "Stuck" "Stuck.__init__" (inClass (top 23) 0)) (List.mem_append_right _ (by simp [zX])))
  have C2 : Ct K mg "Unserved" "place" "wish" (inClass (top 27) 0) := ct_of d X G (mem_fc (by simp [zFc])) (mem_fc (by simp [zFc])) (mem_fc (by simp [zFc])) (mem_fc (by simp [zFc])) (mem_fc (by simp [zFc])) (d.defs (d := zM "Unserved" "Unserved.__init__" (inClass (top 27) 0)) (List.mem_append_right _ (by simp [zX])))
  refine ⟨T, ⟨by decide +kernel, fun x hx => glo_ok X G (d.facts (mem_er hx)), ⟨of_decide_eq_true b1, b2, ?_⟩, bSup_ok o1 i1 s1 c.s1 t1, bSup_ok o2 i2 s2 c.s2 t2, own_of o3 i3 (d.defs (d := zM "BadChoice" "BadChoice.__init__" (inClass (top 5) 0)) (List.mem_append_right _ (by simp [zX]))), own_of o4 i4 (d.defs (d := zM "BadLost" "BadLost.__init__" (inClass (top 6) 0)) (List.mem_append_right _ (by simp [zX]))), of_decide_eq_true np, exc_ok (d.facts (mem_fc (f := .exc "BadPeople") (by simp [zFc]))), xfB_ok x1, xfB_ok x2, xfB_ok x3, fun x hx y hy => of_decide_eq_true (List.all_eq_true.mp (List.all_eq_true.mp ex x hx) y hy)⟩, ⟨C1, C2, ⟨C1.cl, of_decide_eq_true k1, of_decide_eq_true k2, of_decide_eq_true k3, of_decide_eq_true k4, of_decide_eq_true k5⟩⟩, of_decide_eq_true k6, of_decide_eq_true d1, of_decide_eq_true d2, of_decide_eq_true d3⟩
  unfold exB.bNm at b3
  split at b3
  · rename_i n hn
    rw [of_decide_eq_true b3] at hn
    exact hn
  · cases b3
end
end K12

set_option Elab.async false
set_option linter.all false
set_option maxRecDepth 100000
set_option maxHeartbeats 4000000
/-! The law called by the judge's caller, where no guard stands. -/
namespace K12
open PySem PySem.Spec PyProof.Rows L2 He LamX
/-- what is tracked at the call: the empty tables; the script, if the part K does not hold it -/
def atCall (K : PySem.W.Frag) (ts : List Addr) (a : Addr) (so : Obj) (xs : List V) : Hp := fun b => if b ∈ ts then some (.tbl #[]) else if b = a then (match K.lookup a with | none => some (.frz so (.lst xs)) | some _ => none) else none
section
variable {K : PySem.W.Frag} {ts : List Addr} {a b : Addr} {so : Obj} {xs : List V}
theorem atCall_tab (h : b ∈ ts) : atCall K ts a so xs b = some (.tbl #[]) := if_pos h
theorem atCall_off (h : b ∉ ts) (n : b ≠ a) : atCall K ts a so xs b = none := by
  unfold atCall
  rw [if_neg h, if_neg n]
theorem atCall_cases {u : HO} (h : atCall K ts a so xs b = some u) : (b ∈ ts ∧ u = .tbl #[]) ∨ (b ∉ ts ∧ b = a ∧ K.lookup a = none ∧ u = .frz so (.lst xs)) := by
  by_cases m : b ∈ ts
  · rw [atCall_tab m] at h
    exact .inl ⟨m, (Option.some.inj h).symm⟩
  · by_cases n : b = a
    · unfold atCall at h
      rw [if_neg m, if_pos n] at h
      cases q : K.lookup a with
      | none =>
        rw [q] at h
        exact .inr ⟨m, n, rfl, (Option.some.inj h).symm⟩
      | some o =>
        rw [q] at h
        cases h
    · rw [atCall_off m n] at h
      cases h
theorem atCall_script (h : a ∉ ts) (q : K.lookup a = none) : atCall K ts a so xs a = some (.frz so (.lst xs)) := by
  unfold atCall
  rw [if_neg h, if_pos rfl, q]
end
theorem end_call {P : Program} {w : World} {K : PySem.W.Frag} {mg mb : Str → Option Value} {k : Nat} {fa a : Addr} {cs : List (Addr × Addr)} {fd : FuncData} {x : Str} {sp : Sp} {s : Shared} {vs : List Value} {ns : List Int}
    (inK : K.In s.heap) (gl : s.heap.Ns mainGlobals mg) (bl : s.heap.Ns builtinsNs mb) (boot : ∀ x : Str, x ≠ "__name__" → mb x = bootBuiltins x) (noLim : s.heap.NoLimit) (noGen : s.gens = #[])
    (tab : ∀ p ∈ cs, s.heap.get? p.2 = some { cls := .none, data := .fields #[] }) (tabK : ∀ p ∈ cs, K.lookup p.2 = none) (code : ∀ p ∈ cs, PySem.W.CodeHd s.heap p.1 p.2)
    (mod : ∃ (bm : Addr) (ob : Obj), mg "__builtins__" = some (.ref bm) ∧ bm ≠ builtinsNs ∧ s.heap.get? bm = some ob ∧ ob.cls = .type "module" ∧ ob.dict = some builtinsNs ∧ ob.data = .plain)
    (scr : s.heap.get? a = some { cls := .type "list", data := .seq vs.toArray }) (nums : IntsAre vs ns) (few : ns.length ≤ sizeLine) (room : Room k callerA)
    (F : ∀ base : Heap, K.In base → base.Ns mainGlobals mg → (∀ p ∈ cs, TabB base mg p.1 p.2) → FnG P w K mg base k fa fd [x] sp) (bind : ∀ (s : Shared) (u : Value), BindsTo s fd ⟨[u], []⟩ [(x, u)])
    (start : ∀ H : Hp, (∀ p ∈ cs, H p.2 = some (.tbl #[])) → SqL K H a (ns.map V.int) → sp [.ref a] H (fun v _ => v = .bl true) fun _ _ _ => False) :
    codeAny (model P w) callerA (.call (.ref fa) ⟨[.ref a], []⟩) (fun r s' => r = .ok (.ret (.bool true)) ∧ OldK s.heap s'.heap ∧ s'.os = s.os ∧ AllBare s'.gens) s := by
  have pair : ∀ {b : Addr}, b ∈ cs.map (·.2) → ∃ p ∈ cs, p.2 = b := fun hb => List.mem_map.mp hb
  have here : ∀ {p : Addr × Addr}, p ∈ cs → p.2 ∈ cs.map (·.2) := fun hp => List.mem_map.mpr ⟨_, hp, rfl⟩
  have tabAt : ∀ {b : Addr}, b ∈ cs.map (·.2) → s.heap.get? b = some { cls := .none, data := .fields #[] } := fun hb => by
    obtain ⟨p, hp, rfl⟩ := pair hb
    exact tab p hp
  have aNo : a ∉ cs.map (·.2) := fun z => by
    have e := (tabAt z).symm.trans scr
    cases e
  generalize hH : atCall K (cs.map (·.2)) a { cls := .type "list", data := .seq vs.toArray } (ns.map V.int) = H
  have split : ∀ {b : Addr} {u : HO}, H b = some u → (b ∈ cs.map (·.2) ∧ u = .tbl #[]) ∨ (b ∉ cs.map (·.2) ∧ b = a ∧ K.lookup a = none ∧ u = .frz { cls := .type "list", data := .seq vs.toArray } (.lst (ns.map V.int))) := fun {b u} e => by
    rw [← hH] at e
    exact atCall_cases e
  have tabH : ∀ p ∈ cs, H p.2 = some (.tbl #[]) := fun p hp => by
    rw [← hH]
    exact atCall_tab (here hp)
  have seq : SqL K H a (ns.map V.int) := by
    cases q : K.lookup a with
    | none => exact .inl (.inr ⟨_, by rw [← hH]; exact atCall_script aNo q⟩)
    | some o =>
      have e := (inK a o q).symm.trans scr
      cases e
      exact .inr ⟨_, vs.toArray, _, q, rfl, rfl, rfl, by rw [List.size_toArray, nums.length]; exact few, by simpa using vals_ints nums⟩
  have ok : HOk P w H s.heap := fun b u e => by
    rcases split e with ⟨m, rfl⟩ | ⟨_, rfl, _, rfl⟩
    · exact tabAt m
    · exact ⟨scr, by rw [List.length_map]; exact few, vs, _, vals_ints nums, scr⟩
  -- an object of another kind is not tracked
  have other : ∀ {b : Addr} {o : Obj}, s.heap.get? b = some o → (∀ l n, o.data ≠ .seq l n) → o.data ≠ .fields #[] → H b = none := fun {b o} e n1 n2 => by
    cases q : H b with
    | none => rfl
    | some u =>
      rcases split q with ⟨m, _⟩ | ⟨_, rfl, _, _⟩
      · cases e.symm.trans (tabAt m)
        exact absurd rfl n2
      · cases e.symm.trans scr
        exact absurd rfl (n1 _ _)
  have low : ∀ {b : Addr} {o : Obj}, s.heap.get? b = some o → (∀ l n, o.data ≠ .seq l n) → o.data ≠ .fields #[] → (hidT s.heap H).get? b = some o := fun e n1 n2 => hidT_get e (other e n1 n2)
  have names : ∀ {b : Addr} {m : Str → Option Value}, s.heap.Ns b m → (hidT s.heap H).Ns b m := fun {b m} ⟨o, es, ep, e, dd, r⟩ => ⟨o, es, ep, low e (fun l n z => by rw [dd] at z; cases z) (fun z => by rw [dd] at z; cases z), dd, r⟩
  have inB : K.In (hidT s.heap H) := fun b o e => hidT_get (inK b o e) (by
    cases q : H b with
    | none => rfl
    | some u =>
      rcases split q with ⟨m, _⟩ | ⟨_, rfl, n, _⟩
      · obtain ⟨p, hp, rfl⟩ := pair m
        rw [tabK p hp] at e
        cases e
      · rw [n] at e
        cases e)
  have tabs : ∀ p ∈ cs, TabB (hidT s.heap H) mg p.1 p.2 := fun p hp => by
    have tp := tab p hp
    refine ⟨?_, ?_, fun z => ?_⟩
    · obtain ⟨o, us, file, tf, flags, tg, inF, text, tt, e, r1, r2, rest⟩ := code p hp
      exact ⟨o, us, file, tf, flags, tg, inF, text, tt, low e (fun l n z => by rw [r2] at z; cases z) (fun z => by rw [r2] at z; cases z; simp at rest), r1, r2, rest⟩
    · obtain ⟨bm, ob, g, nb, e, c1, c2, c3⟩ := mod
      refine ⟨bm, ob, g, nb, fun z => ?_, fun z => ?_, low e (fun l n z => by rw [c3] at z; cases z) (fun z => by rw [c3] at z; cases z), c1, c2, c3⟩
      · obtain ⟨o, es, ep, e2, dd, _⟩ := gl
        rw [z, e2] at e
        cases e
        rw [dd] at c3
        cases c3
      · rw [z, tp] at e
        cases e
        cases c3
    · obtain ⟨o, es, ep, e2, dd, _⟩ := gl
      rw [z, tp] at e2
      cases e2
      cases dd
  have env : Env0 P w K mg (hidT s.heap H) callerA [] s H :=
    ⟨rfl, ⟨inB, names gl, ⟨mb, names bl, boot⟩, by obtain ⟨mc, n1, n2⟩ := noLim; exact ⟨mc, names n1, n2⟩⟩, fun b o e => of_hidT e, Nat.le_of_eq (hidT_size _ _), trivial, fun b hb => absurd (show b ∈ ([] : List Addr) from hb) (by simp), ok, .of_eq noGen⟩
  refine codeAny_mono ((F _ inB (names gl) tabs).run callerA rfl [] s H ⟨[.ref a], []⟩ [.ref a] [.ref a] _ _ room env (bind s (.ref a)) (.cons rfl .nil) (start H tabH seq)) fun r s' res => ?_
  rcases r with er | fl
  · exact False.elim res
  rcases fl with _ | _ | _ | u
  · exact False.elim res
  · exact False.elim res
  · exact False.elim res
  obtain ⟨v, H', os, bare, un, ok', rv, q⟩ := res
  cases (show v = .bl true from q)
  obtain rfl : u = Value.bool true := rv
  have keep : ∀ b o, b ∉ cs.map (·.2) → s.heap.get? b = some o → s'.heap.get? b = some o := fun b o nb e => by
    cases q : H b with
    | none => exact un.keep b o e q (fun z => absurd (show b ∈ ([] : List Addr) from z) (by simp)) (by simp)
    | some u =>
      rcases split q with ⟨m, _⟩ | ⟨_, _, _, rfl⟩
      · exact absurd m nb
      · have e1 := (ok b _ q).1
        have e2 := (ok' b _ (un.frzs b _ _ q)).1
        rw [e1] at e
        cases e
        exact e2
  have more : ∀ p ∈ cs, ∃ l : Array Value, s'.heap.get? p.2 = some { cls := .none, data := .fields l } := fun p hp => by
    obtain ⟨l, z⟩ := un.tbls p.2 #[] (tabH p hp)
    exact ⟨_, ok' p.2 _ z⟩
  refine ⟨rfl, ⟨fun b o e => ?_, fun b o e => ?_⟩, os, bare⟩
  · by_cases m : b ∈ cs.map (·.2)
    · obtain ⟨p, hp, rfl⟩ := pair m
      obtain ⟨l, hl⟩ := more p hp
      rw [tab p hp] at e
      cases e
      exact .inr (.inl ⟨((code p hp).tab (tab p hp)).isCodeTable, rfl, #[], l, rfl, by rw [Array.empty_append]; exact hl⟩)
    · exact .inl (keep b o m e)
  · by_cases m : b ∈ cs.map (·.2)
    · obtain ⟨p, hp, rfl⟩ := pair m
      obtain ⟨l, hl⟩ := more p hp
      exact ⟨_, hl⟩
    · exact ⟨o, keep b o m e⟩
end K12

set_option Elab.async false
set_option linter.all false
set_option maxRecDepth 100000
set_option maxHeartbeats 0
/-! The row. -/
namespace K12
open PySem PySem.Spec PyProof.Rows L2 He LamX RZ NdefX
theorem tt_start {H : Hp} {Pr Pa Pd : Addr} (h1 : H Pr = some (.tbl #[])) (h2 : H Pa = some (.tbl #[])) (h3 : H Pd = some (.tbl #[])) : TabsN (TT Pr Pa Pd) H := fun p hp => by
  unfold TT at hp
  simp only [List.mem_cons, List.not_mem_nil, or_false] at hp
  rcases hp with e | e | e <;> subst e
  · exact ⟨#[], h1, by first | trivial | simp | decide, fun pos cv hc => nomatch (show (none : Option Value) = some cv from hc)⟩
  · exact ⟨#[], h2, by first | trivial | simp | decide, fun pos cv hc => nomatch (show (none : Option Value) = some cv from hc)⟩
  · exact ⟨#[], h3, by first | trivial | simp | decide, fun pos cv hc => nomatch (show (none : Option Value) = some cv from hc)⟩
theorem walked {q : Program} {loose : List Str} {XP : (Str → Option Value) → Heap → Prop} {d : DefRec} (hn : d.name = ("law" : Str)) (hdf : d.params.defaults = []) : PySem.W.WalkO q loose XP hookZ.says Rw.toRowW d [] (fun f vs => PySem.call f vs) := by
  refine Att.attach_callB (l := PySem.Challenge.rw_anyworths_k12_whole_any_hand_goes) (n := 63) rfl hdf fun w s₀ s₁ mg mb fa o pm cd doc a vs ns G Y ho hd hcd hmg hobj hints hlen hbits hg => ?_
  obtain ⟨K, KX, c⟩ := Y
  obtain ⟨T, R, C, noTup, n1, n2, n3⟩ := all_of c KX G.T.g
  obtain ⟨f, fd, g, F⟩ := T.dfn ("law", 65) (by decide +kernel)
  have ef : f = fa := by
    rw [hn] at hmg
    have e := g.symm.trans hmg
    injection e with e
    injection e
  subst ef
  have b := FunD.bindsA (ps := P_lawd) F fun _ _ _ _ _ _ us hl => match us, hl with | [_], _ => rfl
  have m1 : cT K ("_law_run", none) ∈ zTab.map (cT K) := by simp [zTab]
  have m2 : cT K ("_law_raised_at", none) ∈ zTab.map (cT K) := by simp [zTab]
  have m3 : cT K ("_law_door", none) ∈ zTab.map (cT K) := by simp [zTab]
  refine end_call (k := 13) (x := "_law_script") (cs := zTab.map (cT K)) (fd := fd) (sp := spLaw K (cT K ("_law_run", none)).2 (cT K ("_law_raised_at", none)).2 (cT K ("_law_door", none)).2) KX G.T.g G.T.b G.T.builtins G.T.nolimit hg (fun p hp => ?_) (fun p hp => ?_) (fun p hp => ?_) G.T.bmain hobj hints (Nat.le_trans hlen (by decide)) ⟨rfl, by decide, by decide⟩ (fun base KB GB TBs => ?_) (fun s v => b s [v] rfl) (fun H tabs seq => ?_)
  · obtain ⟨t, ht, rfl⟩ := List.mem_map.mp hp
    exact c.x.empty t ht
  · obtain ⟨t, ht, rfl⟩ := List.mem_map.mp hp
    exact c.x.out t ht
  · obtain ⟨t, ht, rfl⟩ := List.mem_map.mp hp
    exact PySem.W.codeHd_of_K KX (c.x.hd t ht)
  · have d := c.x.t.d
    exact h_lawd F T R C ⟨glo_ok KX G.T.g (d.facts (mem_gl (d := ("_law_run", 53)) (by decide +kernel))), glo_ok KX G.T.g (d.facts (mem_gl (d := ("_law_raised_at", 55)) (by decide +kernel))), glo_ok KX G.T.g (d.facts (mem_gl (d := ("_law_door", 58)) (by decide +kernel))), TBs _ m1, TBs _ m2, TBs _ m3, n1, n2, n3⟩ noTup
  · exact ⟨a, ns, rfl, seq, hlen, tt_start (tabs _ m1) (tabs _ m2) (tabs _ m3), fun _ => rfl⟩
end K12
open PySem PySem.W PySem.Calls PyProof.Rows
theorem PySem.Challenge.cw_anyworths_k12_whole_any_hand_goes_holds : PySem.Challenge.rw_anyworths_k12_whole_any_hand_goes.Holds := by
  w_on; o_law
  refine HandSHeadRun.head_any (r := K12.Rw) (q := view K12.Rw.prog [65]) (H := K12.hookZ) (ob := K12.obZ) (M := 4000) (loose := K12.loose) (d := HandSHeadRun.topDef K12.Rw.prog 65) (kwd := []) K12.obZ_eq
    (by kernel_rfl) (fun s => by kernel_rfl) K12.run (by kernel_rfl) (by kernel_rfl) (by kernel_rfl) (by rfl) (by first | assumption | decide +kernel) (by decide +kernel) ⟨rfl, rfl, rfl, rfl, rfl, by decide +kernel⟩ ?hw ?hc
  case hw => w_witness2
  case hc => exact K12.walked (by kernel_rfl) (by kernel_rfl)

