import PyProof.Rows.All
import Wide.All
import OpenK.AllK
import Wide.FinOn
import HandS.ForMost
import HandS.Codes
import PySem.Challenge.RW_postroad_k74_whole_log_walked
import HandS.IsInst
import HandS.Conv
import HandS.SetKeys
import HandS.DictTup
import HandS.SortRule
import HandS.SortInts
import HandS.Strs
import HandS.SetFor
import HandS.TupLe
import HandS.ExcInit
import HandS.ClsMeth
import HandS.Steps
import HandS.Walk
import KE.KExcIs
import HandS.WordsExc
import HandS.ExcOwn
set_option Elab.async false
set_option maxRecDepth 100000
set_option linter.all false
/-! The text by places: each def of the program and of the law, its names by slot (made by mkd.py). -/
namespace PR
open PySem L2
def top (i : Nat) : Stmt := PySem.Challenge.pw_postroad_k74_whole_log_walked.main.body.getD i (.Pass ⟨0, 0, 0, 0⟩)

abbrev s_NoLetter_init : Stmt := inClass (top 6) 0
def N_NoLetter_init : List Str := ["self", "number"]
theorem sc_NoLetter_init : FnScope N_NoLetter_init ["self", "number"] (defScope s_NoLetter_init) := C8.fnScope_by (by decide +kernel)
abbrev s_is_whole : Stmt := top 14
def N_is_whole : List Str := ["thing", "least", "greatest"]
theorem sc_is_whole : FnScope N_is_whole ["thing", "least", "greatest"] (defScope s_is_whole) := C8.fnScope_by (by decide +kernel)
abbrev s_is_name : Stmt := top 15
def N_is_name : List Str := ["thing", "sign"]
theorem sc_is_name : FnScope N_is_name ["thing"] (defScope s_is_name) := C8.fnScope_by (by decide +kernel)
abbrev s_are_houses : Stmt := top 16
def N_are_houses : List Str := ["thing", "at", "name"]
theorem sc_are_houses : FnScope N_are_houses ["thing"] (defScope s_are_houses) := C8.fnScope_by (by decide +kernel)
abbrev s_is_road : Stmt := top 17
def N_is_road : List Str := ["thing", "names", "end"]
theorem sc_is_road : FnScope N_is_road ["thing", "names"] (defScope s_is_road) := C8.fnScope_by (by decide +kernel)
abbrev s_Net_init : Stmt := inClass (top 18) 0
def N_Net_init : List Str := ["self", "houses", "roads", "one"]
theorem sc_Net_init : FnScope N_Net_init ["self", "houses", "roads"] (defScope s_Net_init) := C8.fnScope_by (by decide +kernel)
abbrev s_Net_houses : Stmt := inClass (top 18) 1
def N_Net_houses : List Str := ["self"]
theorem sc_Net_houses : FnScope N_Net_houses ["self"] (defScope s_Net_houses) := C8.fnScope_by (by decide +kernel)
abbrev s_Net_roads : Stmt := inClass (top 18) 2
def N_Net_roads : List Str := ["self"]
theorem sc_Net_roads : FnScope N_Net_roads ["self"] (defScope s_Net_roads) := C8.fnScope_by (by decide +kernel)
abbrev s_Net_road : Stmt := inClass (top 18) 3
def N_Net_road : List Str := ["self", "number"]
theorem sc_Net_road : FnScope N_Net_road ["self", "number"] (defScope s_Net_road) := C8.fnScope_by (by decide +kernel)
abbrev s_Net_known : Stmt := inClass (top 18) 4
def N_Net_known : List Str := ["self", "house"]
theorem sc_Net_known : FnScope N_Net_known ["self", "house"] (defScope s_Net_known) := C8.fnScope_by (by decide +kernel)
abbrev s_Net_out_of : Stmt := inClass (top 18) 5
def N_Net_out_of : List Str := ["self", "house", "number", "one"]
theorem sc_Net_out_of : FnScope N_Net_out_of ["self", "house"] (defScope s_Net_out_of) := C8.fnScope_by (by decide +kernel)
abbrev s_fars : Stmt := top 19
def N_fars : List Str := ["net", "goal", "told", "changed", "one", "there"]
theorem sc_fars : FnScope N_fars ["net", "goal"] (defScope s_fars) := C8.fnScope_by (by decide +kernel)
abbrev s_is_letter : Stmt := top 24
def N_is_letter : List Str := ["net", "thing", "names"]
theorem sc_is_letter : FnScope N_is_letter ["net", "thing"] (defScope s_is_letter) := C8.fnScope_by (by decide +kernel)
abbrev s_letters_of : Stmt := top 25
def N_letters_of : List Str := ["net", "some", "number", "thing", "turns", "one"]
theorem sc_letters_of : FnScope N_letters_of ["net", "some"] (defScope s_letters_of) := C8.fnScope_by (by decide +kernel)
abbrev s_AtHouse_init : Stmt := inClass (top 29) 0
def N_AtHouse_init : List Str := ["self", "at", "since"]
theorem sc_AtHouse_init : FnScope N_AtHouse_init ["self", "at", "since"] (defScope s_AtHouse_init) := C8.fnScope_by (by decide +kernel)
abbrev s_OnRoad_init : Stmt := inClass (top 30) 0
def N_OnRoad_init : List Str := ["self", "by", "due"]
theorem sc_OnRoad_init : FnScope N_OnRoad_init ["self", "by", "due"] (defScope s_OnRoad_init) := C8.fnScope_by (by decide +kernel)
abbrev s_AtHome_init : Stmt := inClass (top 31) 0
def N_AtHome_init : List Str := ["self", "since"]
theorem sc_AtHome_init : FnScope N_AtHome_init ["self", "since"] (defScope s_AtHome_init) := C8.fnScope_by (by decide +kernel)
abbrev s_later : Stmt := top 32
def N_later : List Str := ["net", "letter", "spot", "turn", "house"]
theorem sc_later : FnScope N_later ["net", "letter", "spot", "turn"] (defScope s_later) := C8.fnScope_by (by decide +kernel)
abbrev s_going : Stmt := top 34
def N_going : List Str := ["letters", "stood", "ways", "numbers", "found", "number", "spot", "road"]
theorem sc_going : FnScope N_going ["letters", "stood", "ways", "numbers"] (defScope s_going) := C8.fnScope_by (by decide +kernel)
abbrev s_bags_of : Stmt := top 35
def N_bags_of : List Str := ["net", "wanted", "turn", "bags", "road", "some", "since", "number"]
theorem sc_bags_of : FnScope N_bags_of ["net", "wanted", "turn"] (defScope s_bags_of) := C8.fnScope_by (by decide +kernel)
abbrev s_left_behind : Stmt := top 36
def N_left_behind : List Str := ["net", "stood", "bags", "after", "turn", "road", "numbers", "number"]
theorem sc_left_behind : FnScope N_left_behind ["net", "stood", "bags"] (defScope s_left_behind) := C8.fnScope_by (by decide +kernel)
abbrev s_Ways_init : Stmt := inClass (top 38) 0
def N_Ways_init : List Str := ["self", "net"]
theorem sc_Ways_init : FnScope N_Ways_init ["self", "net"] (defScope s_Ways_init) := C8.fnScope_by (by decide +kernel)
abbrev s_Ways_need_pair : Stmt := inClass (top 38) 1
def N_Ways_need_pair : List Str := ["self", "house", "goal"]
theorem sc_Ways_need_pair : FnScope N_Ways_need_pair ["self", "house", "goal"] (defScope s_Ways_need_pair) := C8.fnScope_by (by decide +kernel)
abbrev s_Ways_set_way : Stmt := inClass (top 38) 2
def N_Ways_set_way : List Str := ["self", "house", "goal", "road"]
theorem sc_Ways_set_way : FnScope N_Ways_set_way ["self", "house", "goal", "road"] (defScope s_Ways_set_way) := C8.fnScope_by (by decide +kernel)
abbrev s_Ways_drop_way : Stmt := inClass (top 38) 3
def N_Ways_drop_way : List Str := ["self", "house", "goal"]
theorem sc_Ways_drop_way : FnScope N_Ways_drop_way ["self", "house", "goal"] (defScope s_Ways_drop_way) := C8.fnScope_by (by decide +kernel)
abbrev s_shortest : Stmt := top 39
def N_shortest : List Str := ["net", "made", "goal", "told", "house", "best", "n"]
theorem sc_shortest : FnScope N_shortest ["net"] (defScope s_shortest) := C8.fnScope_by (by decide +kernel)
abbrev s_is_first : Stmt := top 40
def N_is_first : List Str := ["line", "told", "turns"]
theorem sc_is_first : FnScope N_is_first ["line", "told", "turns"] (defScope s_is_first) := C8.fnScope_by (by decide +kernel)
abbrev s_Day_init : Stmt := inClass (top 42) 0
def N_Day_init : List Str := ["self", "net", "first"]
theorem sc_Day_init : FnScope N_Day_init ["self", "net", "first"] (defScope s_Day_init) := C8.fnScope_by (by decide +kernel)
abbrev s_Day_now : Stmt := inClass (top 42) 1
def N_Day_now : List Str := ["self"]
theorem sc_Day_now : FnScope N_Day_now ["self"] (defScope s_Day_now) := C8.fnScope_by (by decide +kernel)
abbrev s_Day_post : Stmt := inClass (top 42) 2
def N_Day_post : List Str := ["self", "house", "goal"]
theorem sc_Day_post : FnScope N_Day_post ["self", "house", "goal"] (defScope s_Day_post) := C8.fnScope_by (by decide +kernel)
abbrev s_Day_set_way : Stmt := inClass (top 42) 3
def N_Day_set_way : List Str := ["self", "house", "goal", "road"]
theorem sc_Day_set_way : FnScope N_Day_set_way ["self", "house", "goal", "road"] (defScope s_Day_set_way) := C8.fnScope_by (by decide +kernel)
abbrev s_Day_drop_way : Stmt := inClass (top 42) 4
def N_Day_drop_way : List Str := ["self", "house", "goal"]
theorem sc_Day_drop_way : FnScope N_Day_drop_way ["self", "house", "goal"] (defScope s_Day_drop_way) := C8.fnScope_by (by decide +kernel)
abbrev s_Day_shut : Stmt := inClass (top 42) 5
def N_Day_shut : List Str := ["self", "road"]
theorem sc_Day_shut : FnScope N_Day_shut ["self", "road"] (defScope s_Day_shut) := C8.fnScope_by (by decide +kernel)
abbrev s_Day_reopen : Stmt := inClass (top 42) 6
def N_Day_reopen : List Str := ["self", "road"]
theorem sc_Day_reopen : FnScope N_Day_reopen ["self", "road"] (defScope s_Day_reopen) := C8.fnScope_by (by decide +kernel)
abbrev s_Day_settle : Stmt := inClass (top 42) 7
def N_Day_settle : List Str := ["self", "one", "spot"]
theorem sc_Day_settle : FnScope N_Day_settle ["self"] (defScope s_Day_settle) := C8.fnScope_by (by decide +kernel)
abbrev s_Day_pass_turn : Stmt := inClass (top 42) 8
def N_Day_pass_turn : List Str := ["self", "wanted", "road", "bags"]
theorem sc_Day_pass_turn : FnScope N_Day_pass_turn ["self"] (defScope s_Day_pass_turn) := C8.fnScope_by (by decide +kernel)
abbrev s_Day_log : Stmt := inClass (top 42) 9
def N_Day_log : List Str := ["self"]
theorem sc_Day_log : FnScope N_Day_log ["self"] (defScope s_Day_log) := C8.fnScope_by (by decide +kernel)
abbrev s_Day_letters : Stmt := inClass (top 42) 10
def N_Day_letters : List Str := ["self"]
theorem sc_Day_letters : FnScope N_Day_letters ["self"] (defScope s_Day_letters) := C8.fnScope_by (by decide +kernel)
abbrev s_Day_spot : Stmt := inClass (top 42) 11
def N_Day_spot : List Str := ["self", "number"]
theorem sc_Day_spot : FnScope N_Day_spot ["self", "number"] (defScope s_Day_spot) := C8.fnScope_by (by decide +kernel)
abbrev s_is_number : Stmt := top 44
def N_is_number : List Str := ["thing"]
theorem sc_is_number : FnScope N_is_number ["thing"] (defScope s_is_number) := C8.fnScope_by (by decide +kernel)
abbrev s_is_bag : Stmt := top 45
def N_is_bag : List Str := ["thing", "one"]
theorem sc_is_bag : FnScope N_is_bag ["thing"] (defScope s_is_bag) := C8.fnScope_by (by decide +kernel)
abbrev s_Walk_init : Stmt := inClass (top 46) 0
def N_Walk_init : List Str := ["self", "net", "letters", "one"]
theorem sc_Walk_init : FnScope N_Walk_init ["self", "net", "letters"] (defScope s_Walk_init) := C8.fnScope_by (by decide +kernel)
abbrev s_Walk_lies_at : Stmt := inClass (top 46) 1
def N_Walk_lies_at : List Str := ["self", "number", "house", "turn", "spot"]
theorem sc_Walk_lies_at : FnScope N_Walk_lies_at ["self", "number", "house", "turn"] (defScope s_Walk_lies_at) := C8.fnScope_by (by decide +kernel)
abbrev s_Walk_are_letters : Stmt := inClass (top 46) 2
def N_Walk_are_letters : List Str := ["self", "numbers", "ahead", "number"]
theorem sc_Walk_are_letters : FnScope N_Walk_are_letters ["self", "numbers"] (defScope s_Walk_are_letters) := C8.fnScope_by (by decide +kernel)
abbrev s_Walk_amiss : Stmt := inClass (top 46) 3
def N_Walk_amiss : List Str := ["self", "bag", "turn", "road", "numbers", "lines", "number"]
theorem sc_Walk_amiss : FnScope N_Walk_amiss ["self", "bag"] (defScope s_Walk_amiss) := C8.fnScope_by (by decide +kernel)
abbrev s_Walk_send : Stmt := inClass (top 46) 4
def N_Walk_send : List Str := ["self", "bag", "turn", "road", "numbers", "number"]
theorem sc_Walk_send : FnScope N_Walk_send ["self", "bag"] (defScope s_Walk_send) := C8.fnScope_by (by decide +kernel)
abbrev s_stops_at : Stmt := top 47
def N_stops_at : List Str := ["net", "letters", "plan", "turn", "walk", "kept", "place", "bag", "reason"]
theorem sc_stops_at : FnScope N_stops_at ["net", "letters", "plan", "turn"] (defScope s_stops_at) := C8.fnScope_by (by decide +kernel)
abbrev s_spots_at : Stmt := top 48
def N_spots_at : List Str := ["net", "letters", "plan", "turn", "left", "letter", "spot"]
theorem sc_spots_at : FnScope N_spots_at ["net", "letters", "plan", "turn"] (defScope s_spots_at) := C8.fnScope_by (by decide +kernel)
abbrev s__law_cell_at : Stmt := top 50
def N__law_cell_at : List Str := ["_law_script", "_law_k"]
theorem sc__law_cell_at : FnScope N__law_cell_at ["_law_script", "_law_k"] (defScope s__law_cell_at) := C8.fnScope_by (by decide +kernel)
abbrev s__law_houses : Stmt := top 51
def N__law_houses : List Str := ["_law_cell", "_law_many", "_law_letters", "_law_size", "_law_at", "_law_names", "_law_k", "_law_name", "_law_j", "_law_place"]
theorem sc__law_houses : FnScope N__law_houses ["_law_cell", "_law_many"] (defScope s__law_houses) := C8.fnScope_by (by decide +kernel)
abbrev s__law_road : Stmt := top 52
def N__law_road : List Str := ["_law_cell", "_law_names", "_law_n", "_law_many", "_law_first", "_law_last", "_law_room"]
theorem sc__law_road : FnScope N__law_road ["_law_cell", "_law_names"] (defScope s__law_road) := C8.fnScope_by (by decide +kernel)
abbrev s__law_change : Stmt := top 54
def N__law_change : List Str := ["_law_day", "_law_names", "_law_lines", "_law_n", "_law_house", "_law_goal", "_law_road_here", "_law_what", "_law_mine", "_law_k"]
theorem sc__law_change : FnScope N__law_change ["_law_day", "_law_names", "_law_lines", "_law_n"] (defScope s__law_change) := C8.fnScope_by (by decide +kernel)
abbrev s__law_told : Stmt := top 55
def N__law_told : List Str := ["_law_spot", "_law_kinds", "_law_kind"]
theorem sc__law_told : FnScope N__law_told ["_law_spot"] (defScope s__law_told) := C8.fnScope_by (by decide +kernel)
abbrev s__law_bag_fits : Stmt := top 56
def N__law_bag_fits : List Str := ["_law_lines", "_law_letters", "_law_stood", "_law_bag", "_law_turn", "_law_road_here", "_law_numbers", "_law_n"]
theorem sc__law_bag_fits : FnScope N__law_bag_fits ["_law_lines", "_law_letters", "_law_stood", "_law_bag"] (defScope s__law_bag_fits) := C8.fnScope_by (by decide +kernel)
abbrev s__law_due : Stmt := top 57
def N__law_due : List Str := ["_law_letter_here", "_law_here", "_law_now"]
theorem sc__law_due : FnScope N__law_due ["_law_letter_here", "_law_here", "_law_now"] (defScope s__law_due) := C8.fnScope_by (by decide +kernel)
abbrev s__law_walked : Stmt := top 58
def N__law_walked : List Str := ["_law_lines", "_law_letters", "_law_log", "_law_shut_at", "_law_stood", "_law_letter_here", "_law_at", "_law_bag"]
theorem sc__law_walked : FnScope N__law_walked ["_law_lines", "_law_letters", "_law_log", "_law_shut_at"] (defScope s__law_walked) := C8.fnScope_by (by decide +kernel)
abbrev s__law_nobody : Stmt := top 59
def N__law_nobody : List Str := ["_law_day", "_law_number", "_law_error", "e"]
theorem sc__law_nobody : FnScope N__law_nobody ["_law_day", "_law_number"] (defScope s__law_nobody) := C8.fnScope_by (by decide +kernel)
abbrev s__law_turns : Stmt := top 60
def N__law_turns : List Str := ["_law_day", "_law_closed", "_law_shut_at", "_law_many", "_law_k", "_law_road_here"]
theorem sc__law_turns : FnScope N__law_turns ["_law_day", "_law_closed", "_law_shut_at", "_law_many"] (defScope s__law_turns) := C8.fnScope_by (by decide +kernel)
abbrev s__law_noted : Stmt := top 61
def N__law_noted : List Str := ["_law_deed", "_law_closed"]
theorem sc__law_noted : FnScope N__law_noted ["_law_deed", "_law_closed"] (defScope s__law_noted) := C8.fnScope_by (by decide +kernel)
abbrev s__law_spot_right : Stmt := top 62
def N__law_spot_right : List Str := ["_law_day", "_law_lines", "_law_shut_at", "_law_n", "_law_letters", "_law_stood", "_law_number", "_law_due_here"]
theorem sc__law_spot_right : FnScope N__law_spot_right ["_law_day", "_law_lines", "_law_shut_at", "_law_n"] (defScope s__law_spot_right) := C8.fnScope_by (by decide +kernel)
abbrev s_law : Stmt := top 63
def N_law : List Str := ["_law_script", "_law_names", "_law_cells", "_law_k", "_law_lines", "_law_cell", "_law_first", "_law_net", "_law_day", "_law_closed", "_law_shut_at", "_law_n", "_law_now", "_law_log", "_law_letters", "_law_stood", "_law_due_here", "_law_letter_here", "_law_here", "_law_spot"]
theorem sc_law : FnScope N_law ["_law_script"] (defScope s_law) := C8.fnScope_by (by decide +kernel)
end PR
set_option Elab.async false
set_option maxRecDepth 100000
set_option linter.all false
/-! Rules of my own over the hand layer: built-in types as values, a chain of three, >= of pairs, an instance without __init__, set(tuple of ints), an exception that a name keeps behind its suite. -/
namespace PR
open PySem PySem.Spec PyProof.Rows L2
section
variable {X : Cx}
theorem pe_bty {x : Str} {n : String} {pos : Pos} (hg : Gl X x) (hm : X.mg x = none) (hv : bootBuiltins x = some (.type n)) (hn : x ≠ "__name__" := by decide) (hd : (x == ("__debug__" : Str)) = false := by decide) :
    PE X (.Name x pos) (tC (.ty n)) := pe_bltn hg hm hv rfl hn hd
/-! ### a op b op c op d -/
def tChain3 (r r' r'' : R2) (ta tb tc td : TE) : TE := fun σ H Q => ta σ H fun x H1 => tb σ H1 fun y H2 => r x y H2 fun z H3 => ∃ k, z = .bl k ∧
  (if k = true then tc σ H3 fun w' H4 => r' y w' H4 fun z2 H5 => ∃ k2, z2 = .bl k2 ∧ (if k2 = true then td σ H5 fun u' H6 => r'' w' u' H6 Q else Q (.bl false) H5) else Q (.bl false) H3)
theorem pt_chain3 {a b c e : Expr} {ta tb tc td : TE} {pos : Pos} {op op' op'' : CmpOp} {r r' r'' : R2} (ho : OpR X (compareOp op) r) (ho' : OpR X (compareOp op') r') (ho'' : OpR X (compareOp op'') r'') (ha : PE X a ta) (hb : PE X b tb) (hc : PE X c tc) (hd : PE X e td)
    (hm : lastMarks [op, op', op''] [b, c, e] = false := by with_unfolding_all rfl) : PT X (.Compare a [op, op', op''] [b, c, e] pos) (tTest (tChain3 r r' r'' ta tb tc td)) := by
  refine ⟨fun pins s σ H Q I h => ?_⟩
  refine isTrue_chain (thn (ha.run pins s σ H _ I h) fun v s1 ⟨x, H1, I1, r1, q1⟩ => test_link (thn (hb.run pins s1 σ H1 _ I1 q1) fun u s2 ⟨y, H2, I2, r2, q2⟩ =>
    thn (ho pins s2 σ H2 x y v u _ I2 r1 r2 q2) fun d s3 ⟨z, H3, I3, r3, k, e, q3⟩ => ?_)) hm
  subst e
  cases r3
  refine wpAny_truthy_bool ?_
  cases k with
  | false =>
    obtain ⟨k', e', q'⟩ := q3
    cases e'
    exact ite_ff ⟨H3, I3, q'⟩
  | true =>
    refine ite_tt (test_link (thn (hc.run pins s3 σ H3 _ I3 q3) fun w' s4 ⟨z', H4, I4, r4, q4⟩ => thn (ho' pins s4 σ H4 y z' u w' _ I4 r2 r4 q4) fun d' s5 ⟨z2, H5, I5, r5, k2, e2, q5⟩ => ?_))
    subst e2
    cases r5
    refine wpAny_truthy_bool ?_
    cases k2 with
    | false =>
      obtain ⟨k', e', q'⟩ := q5
      cases e'
      exact ite_ff ⟨H5, I5, q'⟩
    | true =>
      refine ite_tt (test_last (thn (hd.run pins s5 σ H5 _ I5 q5) fun w2 s6 ⟨z3, H6, I6, r6, q6⟩ => thn (ho'' pins s6 σ H6 z' z3 w' w2 _ I6 r4 r6 q6) fun d3 s7 ⟨z4, H7, I7, r7, k3, e3, q7⟩ => ?_))
      subst e3
      cases r7
      exact wpAny_truthy_bool ⟨H7, I7, q7⟩
/-! ### <= and >= of pairs of ints -/
def rLe2 (K : PySem.W.Frag) : R2 := fun x y H Q => ∃ (a b : Addr) (i j k l : Int), x = .ref a ∧ y = .ref b ∧ SqT K H a [.int i, .int j] ∧ SqT K H b [.int k, .int l] ∧ Q (.bl (decide (i < k ∨ (i = k ∧ j ≤ l)))) H
theorem op_le2 (hu : X.A.units < cLine) : OpR X (compareOp .LtE) (rLe2 X.K) := by
  intro pins s σ H x y v u Q I rx ry h
  obtain ⟨a, b, i, j, k, l, rfl, rfl, ha, hb, q⟩ := h
  refine op_leT hu pins s σ H _ _ v u Q I rx ry ⟨a, b, [i, j], [k, l], rfl, rfl, ha, hb, ?_⟩
  have e : Ob.lexAt (fun m => decide (([i, j] : List Int).getD m 0 = ([k, l] : List Int).getD m 0)) (fun m => decide (([i, j] : List Int).getD m 0 ≤ ([k, l] : List Int).getD m 0)) (decide (([i, j] : List Int).length ≤ ([k, l] : List Int).length)) 0 (min ([i, j] : List Int).length ([k, l] : List Int).length) = decide (i < k ∨ (i = k ∧ j ≤ l)) := by
    show (if decide (i = k) = true then (if decide (j = l) = true then true else decide (j ≤ l)) else decide (i ≤ k)) = _
    by_cases h1 : i = k
    · rw [if_pos (decide_eq_true h1)]
      by_cases h2 : j = l
      · rw [if_pos (decide_eq_true h2)]
        exact (decide_eq_true (.inr ⟨h1, Int.le_of_eq h2⟩)).symm
      · rw [if_neg (by rw [decide_eq_false h2]; exact Bool.false_ne_true)]
        exact decide_eq_decide.mpr ⟨fun h => .inr ⟨h1, h⟩, fun h => by omega⟩
    · rw [if_neg (by rw [decide_eq_false h1]; exact Bool.false_ne_true)]
      exact decide_eq_decide.mpr ⟨fun h => .inl (by omega), fun h => by omega⟩
  rw [e]
  exact q
def rGe2 (K : PySem.W.Frag) : R2 := fun x y H Q => ∃ (a b : Addr) (i j k l : Int), x = .ref a ∧ y = .ref b ∧ SqT K H a [.int i, .int j] ∧ SqT K H b [.int k, .int l] ∧ Q (.bl (decide (k < i ∨ (i = k ∧ l ≤ j)))) H
theorem op_ge2 (hu : X.A.units < cLine) : OpR X (compareOp .GtE) (rGe2 X.K) := by
  intro pins s σ H x y v u Q I rx ry h
  obtain ⟨a, b, i, j, k, l, rfl, rfl, ha, hb, q⟩ := h
  cases rx
  cases ry
  obtain ⟨its, r1, p1, _⟩ := I.tuple (xs := ([i, j] : List Int).map V.int) ha
  obtain ⟨its2, r2, p2, _⟩ := I.tuple (xs := ([k, l] : List Int).map V.int) hb
  have i1 : IntsAre its [i, j] := Vals.ints r1
  have i2 : IntsAre its2 [k, l] := Vals.ints r2
  have e1 : its.toArray.size = 2 := by rw [List.size_toArray]; exact i1.length
  have e2 : its2.toArray.size = 2 := by rw [List.size_toArray]; exact i2.length
  have at1 : ∀ j' (h1 : j' < its.toArray.size), ∃ t, its.toArray[j'] = .int (([i, j] : List Int).getD j' 0) t := fun j' h1 => PyProof.Rows.IntsAre.int_at i1 _ _ (by simp at h1; simp [h1])
  have at2 : ∀ j' (h1 : j' < its2.toArray.size), ∃ t, its2.toArray[j'] = .int (([k, l] : List Int).getD j' 0) t := fun j' h1 => PyProof.Rows.IntsAre.int_at i2 _ _ (by simp at h1; simp [h1])
  have R := Ob.RcOp.tuples_ge (A := X.A) (s := s) (e := fun m => decide (([i, j] : List Int).getD m 0 = ([k, l] : List Int).getD m 0)) (r := fun m => decide (([k, l] : List Int).getD m 0 ≤ ([i, j] : List Int).getD m 0)) p1 p2 hu (fun m h1 h2 => by
    obtain ⟨t, et⟩ := at1 m h1
    obtain ⟨t', et'⟩ := at2 m h2
    rw [et, et']
    have z : (([i, j] : List Int).getD m 0 == ([k, l] : List Int).getD m 0) = decide (([i, j] : List Int).getD m 0 = ([k, l] : List Int).getD m 0) := by
      by_cases q : ([i, j] : List Int).getD m 0 = ([k, l] : List Int).getD m 0
      · rw [decide_eq_true q]; exact beq_iff_eq.mpr q
      · rw [decide_eq_false q]; exact beq_eq_false_iff_ne.mpr q
    rw [← z]
    exact SeqAt.EqAt.int_int _ _ _ _) (fun m h1 h2 _ => by
    obtain ⟨t, et⟩ := at1 m h1
    obtain ⟨t', et'⟩ := at2 m h2
    rw [et, et']
    exact Ob.RcOp.ge_int _ _ _ _)
  rw [e1, e2] at R
  have e : Ob.lexAt (fun m => decide (([i, j] : List Int).getD m 0 = ([k, l] : List Int).getD m 0)) (fun m => decide (([k, l] : List Int).getD m 0 ≤ ([i, j] : List Int).getD m 0)) (decide (2 ≥ 2)) 0 (min 2 2) = decide (k < i ∨ (i = k ∧ l ≤ j)) := by
    show (if decide (i = k) = true then (if decide (j = l) = true then true else decide (l ≤ j)) else decide (k ≤ i)) = _
    by_cases h1 : i = k
    · rw [if_pos (decide_eq_true h1)]
      by_cases h2 : j = l
      · rw [if_pos (decide_eq_true h2)]
        exact (decide_eq_true (.inr ⟨h1, Int.le_of_eq h2.symm⟩)).symm
      · rw [if_neg (by rw [decide_eq_false h2]; exact Bool.false_ne_true)]
        exact decide_eq_decide.mpr ⟨fun h => .inr ⟨h1, h⟩, fun h => by omega⟩
    · rw [if_neg (by rw [decide_eq_false h1]; exact Bool.false_ne_true)]
      exact decide_eq_decide.mpr ⟨fun h => .inl (by omega), fun h => by omega⟩
  rw [e] at R
  have z : wpAny (model X.prog X.w) X.A (compareOp .GtE (.ref a) (.ref b)) (EP X pins σ Q) X.xe s := R X.prog X.w X.xe (EP X pins σ Q) ⟨.bl _, H, I, rfl, q⟩
  exact z
/-! ### C() where C has no __init__ -/
structure New0 (K : PySem.W.Frag) (C : Addr) : Prop where
  makes : PySem.W.makesIn K C = true
  init : PySem.W.findIn K (.ref C) "__init__" = some (some (.builtin "object.__init__"))
  kp : PySem.W.keepIn K (.ref C) = true
def tNew0 (C : Addr) : TE := fun _ H Q => ∀ x dx, H x = none → H dx = none → dx ≠ x → Q (.ref x) (upd (upd H dx (.own x)) x (.ins C dx []))
theorem pe_new0 {x : Str} {C : Addr} {p pos : Pos} (M : New0 X.K C) (hg : Gl X x) (hm : X.mg x = some (.ref C)) (hdb : (x == ("__debug__" : Str)) = false := by decide) : PE X (.Call (.Name x p) [] [] pos) (tNew0 C) := by
  refine ⟨fun pins s σ H Q I h => ?_⟩
  refine wpAny_Call_Name_kw (ld_glob I hg hm ?_ hdb)
  refine PySem.W.callWith_K0 I.kIn M.kp ?_
  have hq := h (s.heap.objs.size + 1) s.heap.objs.size (I.hok.fresh (Nat.le_succ _)) (I.hok.fresh (Nat.le_refl _)) (Nat.ne_of_lt (Nat.lt_succ_self _))
  have I2 := Inv.made (C := C) I
  have Y := PySem.W.makes_of (M := model X.prog X.w) I.kIn M.makes
  refine wpAny_call (make_map0 I.kIn M.makes M.init (fun self => PySem.W.Looks.of_pure (PySem.W.oi_bind self)) ?_)
  have t1 : PySem.W.Looks (model X.prog X.w) ((s.heap.push PySem.W.emptyDict).push (PySem.W.instObj C s.heap.objs.size)) (typeOf (.ref (s.heap.objs.size + 1))) (.ref C) := by
    obtain ⟨_, _, _, e2, _⟩ : ObjOk X.prog X.w _ _ (s.heap.objs.size + 1) (.ins C s.heap.objs.size []) := I2.hok (s.heap.objs.size + 1) _ upd_same
    exact (PySem.W.Looks.ld e2).andThen .now
  have t2 : PySem.W.Looks (model X.prog X.w) ((s.heap.push PySem.W.emptyDict).push (PySem.W.instObj C s.heap.objs.size)) (isInstance (.ref (s.heap.objs.size + 1)) (.type "object")) true := t1.andThen (Y.top.keeps fun b o e => Heap.get?_push_of_some _ (Heap.get?_push_of_some _ e))
  refine codeAny_call_builtin PySem.W.oi_plain PySem.W.entry_oi (@PySem.W.check_slot (model X.prog X.w) _ _ _ "object.__init__" "object" "__init__" (.ref (s.heap.objs.size + 1)) [] [] _ PySem.W.oi_kind PySem.W.oi_split t2 (PySem.W.oi_args (.ref (s.heap.objs.size + 1))) ?_)
  rw [PySem.W.oi_run]
  exact wpAny_pure (And.intro rfl ⟨.ref (s.heap.objs.size + 1), _, I2, rfl, hq⟩)
/-! ### set(t), t a tuple of ints -/
def rSetTI (K : PySem.W.Frag) (w : World) : List V → Hp → VK → Prop := fun xs H Q => ∃ (l : Addr) (ns : List Int), xs = [V.ref l] ∧ SqT K H l (ns.map V.int) ∧ ns.length ≤ 1000 ∧
  ∀ (a : Addr) (n : Nat), H a = none → n ≤ ns.length → Q (.ref a) (upd H a (SetO w a (fun j => decide (j ∈ ns)) n))
theorem cr_setTI (hc : X.calm = true) : CallR X (.type "set") (rSetTI X.K X.w) := by
  intro pins s σ H xs us Q I r h
  obtain ⟨l, ns, rfl, hs, hlen, q⟩ := h
  obtain ⟨u, rfl, ru⟩ := r.one
  cases ru
  obtain ⟨its, rv, p1, _⟩ := I.tuple hs
  have hit : IntsAre its.toArray.toList ns := by
    rw [List.toList_toArray]
    exact Vals.ints rv
  have hh : X.A.handled = none := I.ok.hd hc
  refine call_set_tupI ns hh p1 hit (by show ns.length + 1 < scanBound; exact Nat.lt_of_le_of_lt (Nat.succ_le_succ hlen) (by decide)) (fun h' tk c R hcl k => ?_)
  exact ⟨.ref s.heap.objs.size, _, I.laid (t' := tk) k (Nat.le_refl _) (setO_new R), rfl, q _ _ (I.hok.fresh (Nat.le_refl _)) hcl⟩
end
end PR
set_option Elab.async false
set_option maxRecDepth 100000
set_option linter.all false
/-! An exception of an own class with an own __init__ that a name keeps behind its suite. -/
namespace PR
open PySem PySem.Spec PyProof.Rows L2
/-- at a stands a caught exception of the class at C, its dict at d -/
def exk (a C d : Addr) : HO := .ext fun h => ∃ oe vs, h.get? a = some oe ∧ oe.cls = .ref C ∧ oe.dict = some d ∧ oe.data = .fields vs
theorem exk_ok {P : Program} {w : World} {H : Hp} {h : Heap} {a C d : Addr} {oe : Obj} {vs : Array Value} (ha : h.get? a = some oe) (hc : oe.cls = .ref C) (hd : oe.dict = some d) (hv : oe.data = .fields vs) : ObjOk P w H h a (exk a C d) :=
  ⟨⟨oe, vs, ha, hc, hd, hv⟩, ⟨oe, ha⟩, fun h1 h2 z k => by
    obtain ⟨o, v, e1, e2, e3, e4⟩ := z
    exact ⟨o, v, k o e1, e2, e3, e4⟩⟩
section
variable {X : Cx} {pins : List (Addr × Obj)} {σ : L2.St} {H : Hp} {s : Shared}
theorem exk_at {a C d : Addr} (I : L2.Inv X pins σ H s) (e : H a = some (exk a C d)) : ∃ oe vs, s.heap.get? a = some oe ∧ oe.cls = .ref C ∧ oe.dict = some d ∧ oe.data = .fields vs := by
  have x : ObjOk X.prog X.w H s.heap a (.ext fun h => ∃ oe vs, h.get? a = some oe ∧ oe.cls = .ref C ∧ oe.dict = some d ∧ oe.data = .fields vs) := I.hok a _ e
  exact x.1
/-- from here on the caught record is one that H knows -/
theorem track_ok {a C d : Addr} {oe : Obj} {vs : Array Value} (I : L2.Inv X pins σ H s) (ha : s.heap.get? a = some oe) (hc : oe.cls = .ref C) (hd : oe.dict = some d) (hv : oe.data = .fields vs) (na : H a = none) (n0 : X.s_0.heap.get? a = none) (nL : a ≠ X.env.locals)
    (np : ∀ p ∈ X.pn ++ pins, p.1 ≠ a) : L2.Inv X pins σ (upd H a (exk a C d)) s := by
  have ne : ∀ {b : Addr} {o : HO}, H b = some o → b ≠ a := fun e z => by rw [z, na] at e; cases e
  have nC : ∀ x c, X.env.cells.lookup x = some c → c ≠ a := fun x c e z => by
    obtain ⟨v, o, ho, hd'⟩ := I.cell x c e
    rw [z, ha] at ho
    cases ho
    rw [hv] at hd'
    cases hd'
  refine ⟨I.ok, I.os, I.bare, ⟨I.base.keep, I.base.slot, fun b o e n hx => ?_, I.base.there, fun b xs e => ?_, fun b o u e => ?_, fun b ps e => ?_⟩, I.loc, I.cell, ?_, fun x c e => ?_, fun p hp => ?_, fun b o e => ?_, I.len⟩
  · rw [upd_ne (fun z => by rw [z, n0] at e; cases e)]
    exact I.base.free b o e n hx
  · have q := I.base.tups b xs e
    rw [upd_ne (ne q)]
    exact q
  · have q := I.base.frzs b o u e
    rw [upd_ne (ne q)]
    exact q
  · obtain ⟨more, q⟩ := I.base.tbls b ps e
    exact ⟨more, by rw [upd_ne (ne q)]; exact q⟩
  · rw [upd_ne (Ne.symm nL)]
    exact I.free
  · rw [upd_ne (nC x c e)]
    exact I.freeC x c e
  · obtain ⟨e1, e2, e3, e4, e5⟩ := I.pin p hp
    exact ⟨e1, by rw [upd_ne (np p hp)]; exact e2, e3, e4, e5⟩
  · by_cases hb : b = a
    · subst hb
      rw [upd_same] at e
      cases e
      exact exk_ok ha hc hd hv
    · rw [upd_ne hb] at e
      exact (I.hok b o e).stay (fun _ _ _ q => q) (fun c q => by rw [upd_ne (ne q)]; exact q) fun c xs q => by rw [upd_ne (ne q)]; exact q
theorem suite0 (I : L2.Inv X pins σ H s) {a : Addr} : L2.Inv (X.suite a (X.pn ++ pins)) [] σ H s :=
  ⟨I.ok.suite _ _, I.os, I.bare, I.base, I.loc, I.cell, I.free, I.freeC, fun p hp => I.pin p (by rw [List.append_nil] at hp; exact hp), I.hok, I.len⟩
theorem unsuite0 {a : Addr} {pn' : List (Addr × Obj)} (I : L2.Inv (X.suite a (X.pn ++ pins)) pn' σ H s) (ok : X.Ok) : L2.Inv X pins σ H s :=
  ⟨ok, I.os, I.bare, I.base, I.loc, I.cell, I.free, I.freeC, fun p hp => I.pin p (List.mem_append_left _ hp), I.hok, I.len⟩
end
/-- what the clause 'except x as n' wishes, the exception being tracked from the suite on; slot i is n's -/
def wKeep (K : PySem.W.Frag) (c : Value) (i : Nat) (ts : Addr → TS) (D : Ends) : WX := fun cls d σ H =>
  PySem.W.exmOne K cls c = some true ∧ ∃ (C dd : Addr), cls = .ref C ∧ d = some dd ∧ ∀ a, H a = none → ts a { nx := fun σ' H' => D.nx (σ'.set i none) H', rt := D.rt, bk := fun σ' H' => D.bk (σ'.set i none) H', ct := fun σ' H' => D.ct (σ'.set i none) H' } (σ.set i (some (.ref a))) (upd H a (exk a C dd))
section
variable {X : Cx} {x n : Str} {c : Value} {i : Nat} {body suite : List Stmt} {b₀ : Stmt} {np pos pos' : Pos} {tb : WX → TS} {ts : Addr → TS}
theorem ps_try_keep (hs : X.stack = X.env :: X.outer) (hf : X.env.frame = some X.env.locals) (hex : X.ex = []) (hN : X.N.Nodup) (hi : X.N[i]? = some n) (hln : X.env.kindOf n = some .local) (hc : Names X x c)
    (hb : ∀ (W : WX) (pn : List (Addr × Obj)) (xe : Value → Shared → Prop), Takes (X.tr pn xe) W → PassesOwn (model X.prog X.w) X.A X.env xe → PSs (X.tr pn xe) body (tb W))
    (hsu : ∀ (a : Addr) (pn : List (Addr × Obj)), PSs (X.suite a pn) (b₀ :: suite) (ts a)) :
    PS X (.Try body [.ExceptHandler (some (.Name x np)) (some n) (b₀ :: suite) pos'] [] [] pos) (fun D σ H => tb (wKeep X.K c i ts D) D σ H) := by
  refine ⟨fun pins s σ H D I h => ?_⟩
  have ok := I.ok
  have hfr : X.A.frames = some (X.env :: X.outer) := by rw [ok.frames, hs]
  have hloc : Loc X.env.scope n := .inl hln
  refine wpAny_Try_except ?_
  refine wpAny_mono ((hb (wKeep X.K c i ts D) (X.pn ++ pins) (fun e s₁ => wpAny (model X.prog X.w) X.A (noteFrame e X.env) (fun _ s₂ => wpAny (model X.prog X.w) X.A (setFlight e none) (fun _ s₃ =>
    wpAny (model X.prog X.w) X.A (handleBy e X.env [.ExceptHandler (some (.Name x np)) (some n) (b₀ :: suite) pos']) (SP X pins D) X.xe s₃) X.xe s₂) X.xe s₁) (fun u s' xx => ?_) PassesOwn.looking).run [] s σ H D (I.toTry _) h) (fun f s1 hsp => ?_) (fun e s1 he => he)
  · obtain ⟨a, B, sI, pins', σ', H', cls, d, rfl, J', nb, up, sky, na, os, ag, hb1, C, dd, rfl, rfl, hyes⟩ := xx
    have J : L2.Inv X pins σ' H' sI := J'.ofTry ok
    have sky' : Sky B (X.env :: X.outer) a (Zc (.ref C) (some dd)) X.env.locals s'.heap := by rw [← hs]; exact sky
    show wpAny (model X.prog X.w) X.A (noteFrame (.ref a) X.env) _ _ _
    refine Sky.land Zc.steady hfr hf sky' fun h3 fl3 up3 => ?_
    have J3 : L2.Inv X pins σ' H' { s' with heap := h3 } := J.landed nb fl3.1 (up.trans up3) os ag
    obtain ⟨oe3, vs3, he3, hz3, hd3⟩ := fl3.there
    have nB : B.get? a = none := fl3.2.1
    have notFr : ∀ {h : Heap} {o : Obj} {vs : Array Value}, h.FunFrames B (X.env :: X.outer) → h.get? a = some o → o.data = .fields vs → a ∉ frs (X.env :: X.outer) := fun {h o vs} ff e dd hm => by
      obtain ⟨_, o', e', hnf⟩ := ff.mem hm
      rw [e] at e'; cases e'
      exact hnf _ dd
    have nfr := notFr fl3.2.2.1 he3 hd3
    have nL : a ≠ X.env.locals := fun z => nfr (List.mem_filterMap.mpr ⟨X.env, List.mem_cons_self, by rw [hf, z]⟩)
    have nF : a ∉ X.fs := fun hm => by
      obtain ⟨e, he, q⟩ := List.mem_filterMap.mp hm
      exact nfr (List.mem_filterMap.mpr ⟨e, List.mem_cons_of_mem _ he, q⟩)
    have nS : a ∉ frs X.stack := by rw [hs]; exact nfr
    have nI : sI.heap.get? a = none := by
      cases q : sI.heap.get? a with
      | none => rfl
      | some o =>
        have z := nb a o q nS
        rw [nB] at z
        cases z
    have n0 : X.s_0.heap.get? a = none := by
      cases q : X.s_0.heap.get? a with
      | none => rfl
      | some o =>
        obtain ⟨o', z⟩ := J.base.there a o q (by rw [hex]; simp)
        rw [nI] at z
        cases z
    have npn : ∀ p ∈ X.pn ++ pins, p.1 ≠ a := fun p hp z => by
      obtain ⟨e1, _⟩ := J.pin p hp
      rw [z, nI] at e1
      cases e1
    have S3 := J3.suite he3 hd3 na nL nF
    refine wpAny_handleBy_cons (codeAny_handlers_test ?_) (by intro q; cases q)
    have LT : PySem.W.Looks (model X.prog X.w) h3 (typeOf (.ref a)) (.ref C) := fun A Q E s k q => wpAny_typeOf_ref (k _ _ he3) (by rw [hz3.1]; exact q)
    have LM := PySem.W.exm_one (M := model X.prog X.w) (J3.kIn) LT hb1
    have test : ∀ {Q : Value → Shared → Prop} {E : Value → Shared → Prop}, Q c { s' with heap := h3 } → wpAny (model X.prog X.w) (X.A.mark (some (.ref a))) (eval (.Name x np) X.env) Q E { s' with heap := h3 } := fun {Q E} q => by
      obtain ⟨hg, hdbg, hm | ⟨hm, hv, hnn⟩⟩ := hc
      · exact ld_glob (X := X.suite a ((a, oe3) :: (X.pn ++ pins))) S3 hg hm q hdbg
      · exact ld_blt (X := X.suite a ((a, oe3) :: (X.pn ++ pins))) S3 hg hm hv q hnn hdbg
    refine test (LM.here ?_)
    refine codeAny_handlers_suite_as ?_
    refine HandSPX.lands_againZ fl3 fun h4 fl4 up4 => ?_
    have J4 : L2.Inv X pins σ' H' { s' with heap := h4 } := J.landed nb fl4.1 ((up.trans up3).trans up4) os ag
    obtain ⟨oe4, vs4, he4, hz4, hd4⟩ := fl4.there
    have T4 := suite0 (a := a) (track_ok J4 he4 hz4.1 hz4.2 hd4 na n0 nL npn)
    refine store_ok (X := X.suite a (X.pn ++ pins)) (v := .ref a) T4 hN hi hloc rfl (fun s5 S5 => ?_) (.inr hln)
    refine wpAny_mono ((hsu a (X.pn ++ pins)).run [] s5 _ _ _ S5 (hyes a na)) (fun f s6 hsp => ?_) (fun _ _ z => False.elim z)
    have end_ : ∀ {σ6 : L2.St} {H6 : Hp} {Q : Shared → Prop}, L2.Inv (X.suite a (X.pn ++ pins)) [] σ6 H6 s6 → (∀ s7, L2.Inv X pins (σ6.set i none) H6 s7 → Q s7) →
        wpAny (model X.prog X.w) X.A (do bindName X.env n .none; unbindBehindTheSuite X.env n pos') (fun _ s7 => Q s7) X.xe s6 := fun {σ6 H6 Q} S6 hq => gone_ok (unsuite0 S6 ok) hN hi hln hq
    cases f with
    | next =>
      obtain ⟨σ6, H6, S6, q6⟩ := hsp
      exact end_ S6 fun s7 J7 => ⟨_, _, J7, q6⟩
    | brk =>
      obtain ⟨σ6, H6, S6, q6⟩ := hsp
      exact end_ S6 fun s7 J7 => ⟨_, _, J7, q6⟩
    | cont =>
      obtain ⟨σ6, H6, S6, q6⟩ := hsp
      exact end_ S6 fun s7 J7 => ⟨_, _, J7, q6⟩
    | ret u =>
      obtain ⟨v6, σ6, H6, S6, r6, q6⟩ := hsp
      exact end_ S6 fun s7 J7 => ⟨_, _, _, J7, r6, q6⟩
  · cases f with
    | next =>
      obtain ⟨σ', H', J', q⟩ := hsp
      exact wpAny_execs_nil ⟨σ', H', J'.ofTry ok, q⟩
    | brk =>
      obtain ⟨σ', H', J', q⟩ := hsp
      exact ⟨σ', H', J'.ofTry ok, q⟩
    | cont =>
      obtain ⟨σ', H', J', q⟩ := hsp
      exact ⟨σ', H', J'.ofTry ok, q⟩
    | ret u =>
      obtain ⟨v, σ', H', J', r, q⟩ := hsp
      exact ⟨v, σ', H', J'.ofTry ok, r, q⟩
end
/-! ### isinstance and a field of such an exception -/
/-- what isinstance and a read field ask of the class -/
structure KeepC (K : PySem.W.Frag) (C : Addr) : Prop where
  ic : PySem.W.isClsIn K C = true
  hg : PySem.W.findIn K (.ref C) "__getattribute__" = some (some (.builtin "BaseException.__getattribute__"))
  hk : PySem.W.findIn K (.ref C) "__getattr__" = some none
  hs : PySem.W.subIn K (.ref C) (.type "BaseException") = some true
  hd : PySem.W.hasDictIn K C = true
  ha : PySem.W.findIn K (.ref C) "__class__" = some (some (.builtin "object.__class__"))
  hn : PySem.W.specialIn K (.builtin "object.__class__") "__get__" = some (some (.builtin "getset_descriptor.__get__"))
  ht : PySem.W.takesIn K (.builtin "object.__class__") = some true
  hm : PySem.W.mroIn K C (.type "object") = some true
def rIsK (K : PySem.W.Frag) : List V → Hp → VK → Prop := fun xs H Q => ∃ (a C d : Addr) (c : V) (u : Value) (b : Bool) (fs : List (Str × V)), xs = [.ref a, c] ∧ H a = some (exk a C d) ∧ H d = some (.xd fs) ∧ KeepC K C ∧ ClsV c u ∧ PySem.W.kitOne K (.ref C) u = some b ∧ Q (.bl b) H
section
variable {X : Cx}
theorem inst_exk {pins : List (Addr × Obj)} {σ : L2.St} {H : Hp} {s : Shared} {a C d : Addr} {fs : List (Str × V)} (I : L2.Inv X pins σ H s) (e : H a = some (exk a C d)) (ed : H d = some (.xd fs)) :
    ∃ (oe od : Obj) (mA : Str → Option Value), PySem.W.InstAt s.heap a oe C (some od) ∧ (∀ f, PySem.W.lookIn f od = some (mA f)) ∧ ∀ f, RelO (fs.lookup f) (mA f) := by
  obtain ⟨oe, vs, he, hc, hd, hv⟩ := exk_at I e
  have hx : ObjOk X.prog X.w H s.heap d (.xd fs) := I.hok d _ ed
  obtain ⟨mA, hns, hr⟩ := hx
  obtain ⟨od, ho, hl⟩ := lookIn_ns hns
  exact ⟨oe, od, mA, ⟨he, hc, by unfold PySem.W.notCls; rw [hv] <;> rfl, by rw [hd]; exact ho⟩, hl, hr⟩
theorem call_isK : CallR X (.builtin "isinstance") (rIsK X.K) := by
  intro pins s σ H xs us Q I r h
  obtain ⟨a, C, d, c, u, b, fs, rfl, ea, ed, T, k, e, q⟩ := h
  obtain ⟨u1, u2, rfl, r1, r2⟩ := vals2 r
  cases r1
  have e2 := k.eq r2
  subst e2
  obtain ⟨oe, od, mA, J, _⟩ := inst_exk I ea ed
  exact PySem.W.kia_one (PySem.W.kitx_exc T.ic T.hg T.hk T.hs T.ha T.hn T.ht T.hm) I.kIn J e (fun z => nomatch z) fun tk => ⟨.bl b, H, I.tok tk, rfl, q⟩
/-- e.n, e such an exception -/
def tKf (K : PySem.W.Frag) (n : Str) (te : TE) : TE := fun σ H Q => te σ H fun x H1 => ∃ (a C d : Addr) (fs : List (Str × V)) (v : V), x = .ref a ∧ H1 a = some (exk a C d) ∧ H1 d = some (.xd fs) ∧ KeepC K C ∧ PySem.W.findIn K (.ref C) n = some none ∧ fs.lookup n = some v ∧ Q v H1
theorem pe_kf {e : Expr} {te : TE} {pos : Pos} {n : Str} (he : PE X e te) (hb : attributeBase e n X.env (eval e X.env) = eval e X.env := by rfl) : PE X (.Attribute e n pos) (tKf X.K n te) := by
  refine ⟨fun pins s σ H Q I h => ?_⟩
  refine attr_of hb (thn (he.run pins s σ H _ I h) fun u s1 hh => ?_)
  obtain ⟨x, H1, I1, rx, a, C, d, fs, v, ex, ea, ed, T, hno, l, q⟩ := hh
  subst ex
  obtain rfl : u = Value.ref a := rx
  obtain ⟨oe, od, mA, J, hl, hr⟩ := inst_exk I1 ea ed
  obtain ⟨u, hu, ru⟩ := RelO.some_of (v := v) (o := mA n) (by rw [← l]; exact hr n)
  exact HandSPX.exc_get I1.kIn J T.hg T.hk T.hs (PySem.W.findObj_own T.hd hno rfl (by rw [hl, hu])) (handed_of ru) ⟨v, H1, I1.tok _, ru, q⟩
/-- RoadError.__init__(self, ..): nothing of it is told -/
structure BaseInit (K : PySem.W.Frag) (C0 : Addr) : Prop where
  ga : PySem.W.specialIn K (.ref C0) "__getattribute__" = some (some (.builtin "type.__getattribute__"))
  rd : PySem.W.readsIn K C0 (.type "type") = true
  fd : PySem.W.findCls K (.ref C0) (.type "type") "__init__" = some (.val (.builtin "ValueError.__init__"))
theorem pe_rinit {e : Expr} {es : List Expr} {ta : TA} {C0 : Addr} {p1 p2 pos : Pos} {x : Str} {pl : Sem Bool} (hg : Gl X x) (hm : X.mg x = some (.ref C0)) (B : BaseInit X.K C0) (ha : PA X (e :: es) ta) (hdb : (x == ("__debug__" : Str)) = false := by decide)
    (hc : eval (.Call (.Attribute (.Name x p1) "__init__" p2) (e :: es) [] pos) X.env = (do
      let ov ← eval (.Name x p1) X.env
      standAt p2.atName
      let (f, first) ← holding [ov] (getMethod ov "__init__" pl)
      callWith pos f first (backTo pos (starEach (e :: es) X.env)) (backToKw pos (keywordEach [] X.env))) := by rfl)
    (he : starEach (e :: es) X.env = (false, eval e X.env) :: starEach es X.env := by rfl) (hpl : (backTo pos (starEach es X.env)).any (·.1) = false := by rfl) :
    PE X (.Call (.Attribute (.Name x p1) "__init__" p2) (e :: es) [] pos) (tVeI X.K ta) := by
  refine ⟨fun pins s σ H Q I h => ?_⟩
  refine PySem.W.methodCall_KW (ld_glob I hg hm ?_ hdb) hc
  refine PySem.W.method_cls I.kIn B.ga (PySem.W.cls_value I.kIn B.rd B.fd (by decide +kernel) ?_)
  show wpAny _ _ (callWith pos (Value.builtin "ValueError.__init__") [] (backTo pos (starEach (e :: es) X.env)) []) _ _ _
  refine PyProof.Rows.callWith_method1 (thn (ha.run pos pins _ σ H _ (I.tok _) h) fun us s1 ⟨vs, H1, I1, r1, a, C, ws, ev, hl, T, ea, q⟩ => ?_) he hpl
  subst ev
  cases r1 with
  | @cons _ u0 _ ur ra rw' =>
    obtain rfl : u0 = Value.ref a := ra
    have hlen : ur.length ≤ sizeLine := by
      rw [← Paired.length rw', sizeLine_eq]
      omega
    exact oinit_ok T I1 ea hlen fun s' J => ⟨.non, H1, J, rfl, q⟩
end
end PR
set_option Elab.async false
set_option maxRecDepth 100000
set_option linter.all false
/-! The data (plain), how they stand in the heap, what is asked of the top (Txt), short words. -/
namespace PR
open PySem PySem.Spec PyProof.Rows L2
/-! ### plain data -/
/-- the addresses of the classes -/
structure Cs where
  (net ways day walk spot notYet atHouse onRoad atHome roadErr noLetter : Addr)
inductive Kd where
  | ny | ah | rd | hm
  deriving DecidableEq
def Cs.k (c : Cs) : Kd → Addr
  | .ny => c.notYet
  | .ah => c.atHouse
  | .rd => c.onRoad
  | .hm => c.atHome
/-- a spot -/
inductive Spt where
  | ny | ah (h : Str) (s : Int) | rd (r : Nat) (due : Int) | hm (s : Int)
def Spt.kd : Spt → Kd
  | .ny => .ny
  | .ah _ _ => .ah
  | .rd _ _ => .rd
  | .hm _ => .hm
/-- a road, a letter, a bag, a net -/
structure Ln where
  (fr to : Str) (tn rm : Int)
structure Lt where
  (hs : Str) (tn : Int) (gl : Str)
structure Bg where
  (tn : Int) (rd : Nat) (ns : List Nat)
structure Nt where
  (names : List Str) (lines : List Ln)
def lnV (l : Ln) : List V := [.str l.fr, .str l.to, .int l.tn, .int l.rm]
def ltV (t : Lt) : List V := [.str t.hs, .int t.tn, .str t.gl]
def nat (n : Nat) : V := .int (n : Int)
/-! ### the objects' fields -/
def netF (v0 v1 : V) : List (Str × V) := [(("names" : Str), v0), (("lines" : Str), v1)]
theorem lk_Net_names {v0 v1 : V} : List.lookup ("names" : Str) (netF v0 v1) = some v0 := by kernel_rfl
theorem pf_Net_names {v0 v1 z : V} : putF "names" z (netF v0 v1) = (netF z v1) := by kernel_rfl
theorem pi_Net_names {v0 : V} : putF "names" v0 ([] : List (Str × V)) = [(("names" : Str), v0)] := by kernel_rfl
theorem lk_Net_lines {v0 v1 : V} : List.lookup ("lines" : Str) (netF v0 v1) = some v1 := by kernel_rfl
theorem pf_Net_lines {v0 v1 z : V} : putF "lines" z (netF v0 v1) = (netF v0 z) := by kernel_rfl
theorem pi_Net_lines {v0 v1 : V} : putF "lines" v1 ([(("names" : Str), v0)] : List (Str × V)) = (netF v0 v1) := by kernel_rfl
theorem ln_Net_houses {v0 v1 : V} : List.lookup ("houses" : Str) (netF v0 v1) = none := by kernel_rfl
theorem ln_Net_roads {v0 v1 : V} : List.lookup ("roads" : Str) (netF v0 v1) = none := by kernel_rfl
theorem ln_Net_road {v0 v1 : V} : List.lookup ("road" : Str) (netF v0 v1) = none := by kernel_rfl
theorem ln_Net_known {v0 v1 : V} : List.lookup ("known" : Str) (netF v0 v1) = none := by kernel_rfl
theorem ln_Net_out_of {v0 v1 : V} : List.lookup ("out_of" : Str) (netF v0 v1) = none := by kernel_rfl
def waysF (v0 v1 : V) : List (Str × V) := [(("net" : Str), v0), (("told" : Str), v1)]
theorem lk_Ways_net {v0 v1 : V} : List.lookup ("net" : Str) (waysF v0 v1) = some v0 := by kernel_rfl
theorem pf_Ways_net {v0 v1 z : V} : putF "net" z (waysF v0 v1) = (waysF z v1) := by kernel_rfl
theorem pi_Ways_net {v0 : V} : putF "net" v0 ([] : List (Str × V)) = [(("net" : Str), v0)] := by kernel_rfl
theorem lk_Ways_told {v0 v1 : V} : List.lookup ("told" : Str) (waysF v0 v1) = some v1 := by kernel_rfl
theorem pf_Ways_told {v0 v1 z : V} : putF "told" z (waysF v0 v1) = (waysF v0 z) := by kernel_rfl
theorem pi_Ways_told {v0 v1 : V} : putF "told" v1 ([(("net" : Str), v0)] : List (Str × V)) = (waysF v0 v1) := by kernel_rfl
theorem ln_Ways_need_pair {v0 v1 : V} : List.lookup ("need_pair" : Str) (waysF v0 v1) = none := by kernel_rfl
theorem ln_Ways_set_way {v0 v1 : V} : List.lookup ("set_way" : Str) (waysF v0 v1) = none := by kernel_rfl
theorem ln_Ways_drop_way {v0 v1 : V} : List.lookup ("drop_way" : Str) (waysF v0 v1) = none := by kernel_rfl
def dayF (v0 v1 v2 v3 v4 v5 v6 : V) : List (Str × V) := [(("net" : Str), v0), (("turn" : Str), v1), (("ways" : Str), v2), (("posted" : Str), v3), (("stood" : Str), v4), (("closed" : Str), v5), (("gone" : Str), v6)]
theorem lk_Day_net {v0 v1 v2 v3 v4 v5 v6 : V} : List.lookup ("net" : Str) (dayF v0 v1 v2 v3 v4 v5 v6) = some v0 := by kernel_rfl
theorem pf_Day_net {v0 v1 v2 v3 v4 v5 v6 z : V} : putF "net" z (dayF v0 v1 v2 v3 v4 v5 v6) = (dayF z v1 v2 v3 v4 v5 v6) := by kernel_rfl
theorem pi_Day_net {v0 : V} : putF "net" v0 ([] : List (Str × V)) = [(("net" : Str), v0)] := by kernel_rfl
theorem lk_Day_turn {v0 v1 v2 v3 v4 v5 v6 : V} : List.lookup ("turn" : Str) (dayF v0 v1 v2 v3 v4 v5 v6) = some v1 := by kernel_rfl
theorem pf_Day_turn {v0 v1 v2 v3 v4 v5 v6 z : V} : putF "turn" z (dayF v0 v1 v2 v3 v4 v5 v6) = (dayF v0 z v2 v3 v4 v5 v6) := by kernel_rfl
theorem pi_Day_turn {v0 v1 : V} : putF "turn" v1 ([(("net" : Str), v0)] : List (Str × V)) = [(("net" : Str), v0), (("turn" : Str), v1)] := by kernel_rfl
theorem lk_Day_ways {v0 v1 v2 v3 v4 v5 v6 : V} : List.lookup ("ways" : Str) (dayF v0 v1 v2 v3 v4 v5 v6) = some v2 := by kernel_rfl
theorem pf_Day_ways {v0 v1 v2 v3 v4 v5 v6 z : V} : putF "ways" z (dayF v0 v1 v2 v3 v4 v5 v6) = (dayF v0 v1 z v3 v4 v5 v6) := by kernel_rfl
theorem pi_Day_ways {v0 v1 v2 : V} : putF "ways" v2 ([(("net" : Str), v0), (("turn" : Str), v1)] : List (Str × V)) = [(("net" : Str), v0), (("turn" : Str), v1), (("ways" : Str), v2)] := by kernel_rfl
theorem lk_Day_posted {v0 v1 v2 v3 v4 v5 v6 : V} : List.lookup ("posted" : Str) (dayF v0 v1 v2 v3 v4 v5 v6) = some v3 := by kernel_rfl
theorem pf_Day_posted {v0 v1 v2 v3 v4 v5 v6 z : V} : putF "posted" z (dayF v0 v1 v2 v3 v4 v5 v6) = (dayF v0 v1 v2 z v4 v5 v6) := by kernel_rfl
theorem pi_Day_posted {v0 v1 v2 v3 : V} : putF "posted" v3 ([(("net" : Str), v0), (("turn" : Str), v1), (("ways" : Str), v2)] : List (Str × V)) = [(("net" : Str), v0), (("turn" : Str), v1), (("ways" : Str), v2), (("posted" : Str), v3)] := by kernel_rfl
theorem lk_Day_stood {v0 v1 v2 v3 v4 v5 v6 : V} : List.lookup ("stood" : Str) (dayF v0 v1 v2 v3 v4 v5 v6) = some v4 := by kernel_rfl
theorem pf_Day_stood {v0 v1 v2 v3 v4 v5 v6 z : V} : putF "stood" z (dayF v0 v1 v2 v3 v4 v5 v6) = (dayF v0 v1 v2 v3 z v5 v6) := by kernel_rfl
theorem pi_Day_stood {v0 v1 v2 v3 v4 : V} : putF "stood" v4 ([(("net" : Str), v0), (("turn" : Str), v1), (("ways" : Str), v2), (("posted" : Str), v3)] : List (Str × V)) = [(("net" : Str), v0), (("turn" : Str), v1), (("ways" : Str), v2), (("posted" : Str), v3), (("stood" : Str), v4)] := by kernel_rfl
theorem lk_Day_closed {v0 v1 v2 v3 v4 v5 v6 : V} : List.lookup ("closed" : Str) (dayF v0 v1 v2 v3 v4 v5 v6) = some v5 := by kernel_rfl
theorem pf_Day_closed {v0 v1 v2 v3 v4 v5 v6 z : V} : putF "closed" z (dayF v0 v1 v2 v3 v4 v5 v6) = (dayF v0 v1 v2 v3 v4 z v6) := by kernel_rfl
theorem pi_Day_closed {v0 v1 v2 v3 v4 v5 : V} : putF "closed" v5 ([(("net" : Str), v0), (("turn" : Str), v1), (("ways" : Str), v2), (("posted" : Str), v3), (("stood" : Str), v4)] : List (Str × V)) = [(("net" : Str), v0), (("turn" : Str), v1), (("ways" : Str), v2), (("posted" : Str), v3), (("stood" : Str), v4), (("closed" : Str), v5)] := by kernel_rfl
theorem lk_Day_gone {v0 v1 v2 v3 v4 v5 v6 : V} : List.lookup ("gone" : Str) (dayF v0 v1 v2 v3 v4 v5 v6) = some v6 := by kernel_rfl
theorem pf_Day_gone {v0 v1 v2 v3 v4 v5 v6 z : V} : putF "gone" z (dayF v0 v1 v2 v3 v4 v5 v6) = (dayF v0 v1 v2 v3 v4 v5 z) := by kernel_rfl
theorem pi_Day_gone {v0 v1 v2 v3 v4 v5 v6 : V} : putF "gone" v6 ([(("net" : Str), v0), (("turn" : Str), v1), (("ways" : Str), v2), (("posted" : Str), v3), (("stood" : Str), v4), (("closed" : Str), v5)] : List (Str × V)) = (dayF v0 v1 v2 v3 v4 v5 v6) := by kernel_rfl
theorem ln_Day_now {v0 v1 v2 v3 v4 v5 v6 : V} : List.lookup ("now" : Str) (dayF v0 v1 v2 v3 v4 v5 v6) = none := by kernel_rfl
theorem ln_Day_post {v0 v1 v2 v3 v4 v5 v6 : V} : List.lookup ("post" : Str) (dayF v0 v1 v2 v3 v4 v5 v6) = none := by kernel_rfl
theorem ln_Day_set_way {v0 v1 v2 v3 v4 v5 v6 : V} : List.lookup ("set_way" : Str) (dayF v0 v1 v2 v3 v4 v5 v6) = none := by kernel_rfl
theorem ln_Day_drop_way {v0 v1 v2 v3 v4 v5 v6 : V} : List.lookup ("drop_way" : Str) (dayF v0 v1 v2 v3 v4 v5 v6) = none := by kernel_rfl
theorem ln_Day_shut {v0 v1 v2 v3 v4 v5 v6 : V} : List.lookup ("shut" : Str) (dayF v0 v1 v2 v3 v4 v5 v6) = none := by kernel_rfl
theorem ln_Day_reopen {v0 v1 v2 v3 v4 v5 v6 : V} : List.lookup ("reopen" : Str) (dayF v0 v1 v2 v3 v4 v5 v6) = none := by kernel_rfl
theorem ln_Day_settle {v0 v1 v2 v3 v4 v5 v6 : V} : List.lookup ("settle" : Str) (dayF v0 v1 v2 v3 v4 v5 v6) = none := by kernel_rfl
theorem ln_Day_pass_turn {v0 v1 v2 v3 v4 v5 v6 : V} : List.lookup ("pass_turn" : Str) (dayF v0 v1 v2 v3 v4 v5 v6) = none := by kernel_rfl
theorem ln_Day_log {v0 v1 v2 v3 v4 v5 v6 : V} : List.lookup ("log" : Str) (dayF v0 v1 v2 v3 v4 v5 v6) = none := by kernel_rfl
theorem ln_Day_letters {v0 v1 v2 v3 v4 v5 v6 : V} : List.lookup ("letters" : Str) (dayF v0 v1 v2 v3 v4 v5 v6) = none := by kernel_rfl
theorem ln_Day_spot {v0 v1 v2 v3 v4 v5 v6 : V} : List.lookup ("spot" : Str) (dayF v0 v1 v2 v3 v4 v5 v6) = none := by kernel_rfl
def walkF (v0 v1 v2 v3 : V) : List (Str × V) := [(("net" : Str), v0), (("posted" : Str), v1), (("stood" : Str), v2), (("last" : Str), v3)]
theorem lk_Walk_net {v0 v1 v2 v3 : V} : List.lookup ("net" : Str) (walkF v0 v1 v2 v3) = some v0 := by kernel_rfl
theorem pf_Walk_net {v0 v1 v2 v3 z : V} : putF "net" z (walkF v0 v1 v2 v3) = (walkF z v1 v2 v3) := by kernel_rfl
theorem pi_Walk_net {v0 : V} : putF "net" v0 ([] : List (Str × V)) = [(("net" : Str), v0)] := by kernel_rfl
theorem lk_Walk_posted {v0 v1 v2 v3 : V} : List.lookup ("posted" : Str) (walkF v0 v1 v2 v3) = some v1 := by kernel_rfl
theorem pf_Walk_posted {v0 v1 v2 v3 z : V} : putF "posted" z (walkF v0 v1 v2 v3) = (walkF v0 z v2 v3) := by kernel_rfl
theorem pi_Walk_posted {v0 v1 : V} : putF "posted" v1 ([(("net" : Str), v0)] : List (Str × V)) = [(("net" : Str), v0), (("posted" : Str), v1)] := by kernel_rfl
theorem lk_Walk_stood {v0 v1 v2 v3 : V} : List.lookup ("stood" : Str) (walkF v0 v1 v2 v3) = some v2 := by kernel_rfl
theorem pf_Walk_stood {v0 v1 v2 v3 z : V} : putF "stood" z (walkF v0 v1 v2 v3) = (walkF v0 v1 z v3) := by kernel_rfl
theorem pi_Walk_stood {v0 v1 v2 : V} : putF "stood" v2 ([(("net" : Str), v0), (("posted" : Str), v1)] : List (Str × V)) = [(("net" : Str), v0), (("posted" : Str), v1), (("stood" : Str), v2)] := by kernel_rfl
theorem lk_Walk_last {v0 v1 v2 v3 : V} : List.lookup ("last" : Str) (walkF v0 v1 v2 v3) = some v3 := by kernel_rfl
theorem pf_Walk_last {v0 v1 v2 v3 z : V} : putF "last" z (walkF v0 v1 v2 v3) = (walkF v0 v1 v2 z) := by kernel_rfl
theorem pi_Walk_last {v0 v1 v2 v3 : V} : putF "last" v3 ([(("net" : Str), v0), (("posted" : Str), v1), (("stood" : Str), v2)] : List (Str × V)) = (walkF v0 v1 v2 v3) := by kernel_rfl
theorem ln_Walk_lies_at {v0 v1 v2 v3 : V} : List.lookup ("lies_at" : Str) (walkF v0 v1 v2 v3) = none := by kernel_rfl
theorem ln_Walk_are_letters {v0 v1 v2 v3 : V} : List.lookup ("are_letters" : Str) (walkF v0 v1 v2 v3) = none := by kernel_rfl
theorem ln_Walk_amiss {v0 v1 v2 v3 : V} : List.lookup ("amiss" : Str) (walkF v0 v1 v2 v3) = none := by kernel_rfl
theorem ln_Walk_send {v0 v1 v2 v3 : V} : List.lookup ("send" : Str) (walkF v0 v1 v2 v3) = none := by kernel_rfl
def atHouseF (v0 v1 : V) : List (Str × V) := [(("at" : Str), v0), (("since" : Str), v1)]
theorem lk_AtHouse_at {v0 v1 : V} : List.lookup ("at" : Str) (atHouseF v0 v1) = some v0 := by kernel_rfl
theorem pf_AtHouse_at {v0 v1 z : V} : putF "at" z (atHouseF v0 v1) = (atHouseF z v1) := by kernel_rfl
theorem pi_AtHouse_at {v0 : V} : putF "at" v0 ([] : List (Str × V)) = [(("at" : Str), v0)] := by kernel_rfl
theorem lk_AtHouse_since {v0 v1 : V} : List.lookup ("since" : Str) (atHouseF v0 v1) = some v1 := by kernel_rfl
theorem pf_AtHouse_since {v0 v1 z : V} : putF "since" z (atHouseF v0 v1) = (atHouseF v0 z) := by kernel_rfl
theorem pi_AtHouse_since {v0 v1 : V} : putF "since" v1 ([(("at" : Str), v0)] : List (Str × V)) = (atHouseF v0 v1) := by kernel_rfl
def onRoadF (v0 v1 : V) : List (Str × V) := [(("by" : Str), v0), (("due" : Str), v1)]
theorem lk_OnRoad_by {v0 v1 : V} : List.lookup ("by" : Str) (onRoadF v0 v1) = some v0 := by kernel_rfl
theorem pf_OnRoad_by {v0 v1 z : V} : putF "by" z (onRoadF v0 v1) = (onRoadF z v1) := by kernel_rfl
theorem pi_OnRoad_by {v0 : V} : putF "by" v0 ([] : List (Str × V)) = [(("by" : Str), v0)] := by kernel_rfl
theorem lk_OnRoad_due {v0 v1 : V} : List.lookup ("due" : Str) (onRoadF v0 v1) = some v1 := by kernel_rfl
theorem pf_OnRoad_due {v0 v1 z : V} : putF "due" z (onRoadF v0 v1) = (onRoadF v0 z) := by kernel_rfl
theorem pi_OnRoad_due {v0 v1 : V} : putF "due" v1 ([(("by" : Str), v0)] : List (Str × V)) = (onRoadF v0 v1) := by kernel_rfl
def atHomeF (v0 : V) : List (Str × V) := [(("since" : Str), v0)]
theorem lk_AtHome_since {v0 : V} : List.lookup ("since" : Str) (atHomeF v0) = some v0 := by kernel_rfl
theorem pf_AtHome_since {v0 z : V} : putF "since" z (atHomeF v0) = (atHomeF z) := by kernel_rfl
theorem pi_AtHome_since {v0 : V} : putF "since" v0 ([] : List (Str × V)) = (atHomeF v0) := by kernel_rfl
def notYetF : List (Str × V) := []
def Spt.fs : Spt → List (Str × V)
  | .ny => notYetF
  | .ah h s => atHouseF (.str h) (.int s)
  | .rd r d => onRoadF (nat r) (.int d)
  | .hm s => atHomeF (.int s)
/-! ### in the heap -/
def SptAt (c : Cs) (H : Hp) (a : Addr) (sp : Spt) : Prop := ∃ dx, H a = some (.ins (c.k sp.kd) dx sp.fs)
def LnAt (H : Hp) (a : Addr) (l : Ln) : Prop := H a = some (.tup (lnV l))
def LtAt (H : Hp) (a : Addr) (t : Lt) : Prop := H a = some (.tup (ltV t))
def BgAt (H : Hp) (a : Addr) (b : Bg) : Prop := ∃ q, H a = some (.tup [.int b.tn, nat b.rd, .ref q]) ∧ H q = some (.tup (b.ns.map nat))
/-- at p a list of objects, each as R says -/
def LOf {α : Type} (R : Addr → α → Prop) (H : Hp) (p : Addr) (xs : List α) : Prop := ∃ as : List Addr, H p = some (.lst (as.map V.ref)) ∧ Paired R as xs
def NetAt (c : Cs) (H : Hp) (p : Addr) (N : Nt) : Prop := ∃ dx an al, H p = some (.ins c.net dx (netF (.ref an) (.ref al))) ∧ H an = some (.lst (N.names.map V.str)) ∧ LOf (LnAt H) H al N.lines
section
variable {H H' : Hp}
theorem Paired.at_r {α β : Type} {R : α → β → Prop} : ∀ {as : List α} {xs : List β} {i : Nat} {x : β}, Paired R as xs → xs[i]? = some x → ∃ a, as[i]? = some a ∧ R a x
  | _, _, _, _, .nil, e => by simp at e
  | _, _, 0, _, .cons r _, e => by simp at e; subst e; exact ⟨_, rfl, r⟩
  | _, _, i + 1, x, .cons _ t, e => by
    obtain ⟨u, h1, h2⟩ := Paired.at_r (i := i) (x := x) t (by simpa using e)
    exact ⟨u, by simpa using h1, h2⟩
theorem Paired.at_l {α β : Type} {R : α → β → Prop} : ∀ {as : List α} {xs : List β} {i : Nat} {a : α}, Paired R as xs → as[i]? = some a → ∃ x, xs[i]? = some x ∧ R a x
  | _, _, _, _, .nil, e => by simp at e
  | _, _, 0, _, .cons r _, e => by simp at e; subst e; exact ⟨_, rfl, r⟩
  | _, _, i + 1, x, .cons _ t, e => by
    obtain ⟨u, h1, h2⟩ := Paired.at_l (i := i) (a := x) t (by simpa using e)
    exact ⟨u, by simpa using h1, h2⟩
theorem Paired.set' {α β : Type} {R : α → β → Prop} {a : α} {x : β} (r : R a x) : ∀ {as : List α} {xs : List β} (i : Nat), Paired R as xs → Paired R (as.set i a) (xs.set i x)
  | _, _, _, .nil => .nil
  | _, _, 0, .cons _ t => .cons r t
  | _, _, i + 1, .cons q t => .cons q (Paired.set' r i t)
theorem Paired.app {α β : Type} {R : α → β → Prop} : ∀ {as bs : List α} {xs ys : List β}, Paired R as xs → Paired R bs ys → Paired R (as ++ bs) (xs ++ ys)
  | _, _, _, _, .nil, s => s
  | _, _, _, _, .cons r t, s => .cons r (Paired.app t s)
theorem refs_at {as : List Addr} {i : Nat} {a : Addr} (h : as[i]? = some a) : (as.map V.ref)[i]? = some (.ref a) := by rw [List.getElem?_map, h]; rfl
theorem map_at {α β : Type} (f : α → β) {xs : List α} {i : Nat} {x : α} (h : xs[i]? = some x) : (xs.map f)[i]? = some (f x) := by rw [List.getElem?_map, h]; rfl
theorem map_of {α β : Type} {f : α → β} {xs : List α} {i : Nat} {y : β} (h : (xs.map f)[i]? = some y) : ∃ x, xs[i]? = some x ∧ y = f x := by
  rw [List.getElem?_map] at h
  cases e : xs[i]? with
  | none => rw [e] at h; cases h
  | some x => rw [e] at h; exact ⟨x, rfl, (Option.some.inj h).symm⟩
theorem lt_of_at {α : Type} {xs : List α} {i : Nat} {x : α} (h : xs[i]? = some x) : i < xs.length := (List.getElem?_eq_some_iff.mp h).1
theorem at_of_lt {α : Type} {xs : List α} {i : Nat} (h : i < xs.length) : ∃ x, xs[i]? = some x := ⟨xs[i], by simp [h]⟩
theorem _root_.L2.Same.new {p : Addr} {o : HO} (h : H p = none) : Same H (upd H p o) := fun b u e => by rw [upd_ne (ne_of_none e h)]; exact e
/-- what G does not know may change -/
theorem _root_.L2.Same.mut {G : Hp} {p : Addr} {o : HO} (s : Same G H) (h : G p = none) : Same G (upd H p o) := fun b u e => by rw [upd_ne (ne_of_none e h)]; exact s b u e
theorem _root_.L2.Same.seqT {K : PySem.W.Frag} {a : Addr} {xs : List V} (e : Same H H') (h : SqT K H a xs) : SqT K H' a xs := by
  rcases h with (h | ⟨o, h⟩) | h
  · exact .inl (.inl (e _ _ h))
  · exact .inl (.inr ⟨o, e _ _ h⟩)
  · exact .inr h
theorem SptAt.mono {c : Cs} {a : Addr} {sp : Spt} (s : Same H H') (h : SptAt c H a sp) : SptAt c H' a sp := let ⟨dx, e⟩ := h; ⟨dx, s _ _ e⟩
theorem LnAt.mono {a : Addr} {l : Ln} (s : Same H H') (h : LnAt H a l) : LnAt H' a l := s _ _ h
theorem LtAt.mono {a : Addr} {l : Lt} (s : Same H H') (h : LtAt H a l) : LtAt H' a l := s _ _ h
theorem BgAt.mono {a : Addr} {l : Bg} (s : Same H H') (h : BgAt H a l) : BgAt H' a l := let ⟨q, e1, e2⟩ := h; ⟨q, s _ _ e1, s _ _ e2⟩
theorem LOf.mono {α : Type} {R R' : Addr → α → Prop} {p : Addr} {xs : List α} (s : Same H H') (r : ∀ a x, R a x → R' a x) (h : LOf R H p xs) : LOf R' H' p xs := let ⟨as, e, q⟩ := h; ⟨as, s _ _ e, L2.Paired.mapP q r⟩
theorem NetAt.mono {c : Cs} {p : Addr} {N : Nt} (s : Same H H') (h : NetAt c H p N) : NetAt c H' p N := by
  obtain ⟨dx, an, al, h1, h2, h3⟩ := h
  exact ⟨dx, an, al, s _ _ h1, s _ _ h2, h3.mono s fun _ _ => LnAt.mono s⟩
end
/-! ### what is asked of the top -/
/-- a def of the module -/
structure DefX (K : PySem.W.Frag) (mg : Str → Option Value) (x : Str) (st : Stmt) : Prop where
  ex : ∃ f fd, Fun K x x st f fd ∧ mg x = some (.ref f)
structure MethX (K : PySem.W.Frag) (C : Addr) (m qual : Str) (st : Stmt) : Prop where
  ex : ∃ f fd, Meth K C m f ∧ Fun K m qual st f fd
structure MakX (K : PySem.W.Frag) (C : Addr) (qual : Str) (st : Stmt) : Prop where
  ex : ∃ f fd, Mk K C f ∧ Fun K "__init__" qual st f fd
/-- the __init__ of an exception's class -/
structure IniX (K : PySem.W.Frag) (C : Addr) (qual : Str) (st : Stmt) : Prop where
  ex : ∃ f fd, PySem.W.findIn K (.ref C) "__init__" = some (some (.ref f)) ∧ PySem.W.typeIn K (.ref f) = some (.type "function") ∧ Fun K "__init__" qual st f fd
/-- what isinstance wants to know of a class of the program -/
structure KdC (K : PySem.W.Frag) (C : Addr) : Prop where
  cl : Cls K C
  ha : PySem.W.findIn K (.ref C) "__class__" = some (some (.builtin "object.__class__"))
  hn : PySem.W.specialIn K (.builtin "object.__class__") "__get__" = some (some (.builtin "getset_descriptor.__get__"))
  ht : PySem.W.takesIn K (.builtin "object.__class__") = some true
  hm : PySem.W.mroIn K C (.type "object") = some true
structure Txt (K : PySem.W.Frag) (mg : Str → Option Value) (c : Cs) : Prop where
  cl_Net : Cls K c.net
  n_Net_names : NoAttr K c.net "names"
  n_Net_lines : NoAttr K c.net "lines"
  cl_Ways : Cls K c.ways
  n_Ways_net : NoAttr K c.ways "net"
  n_Ways_told : NoAttr K c.ways "told"
  cl_Day : Cls K c.day
  n_Day_net : NoAttr K c.day "net"
  n_Day_turn : NoAttr K c.day "turn"
  n_Day_ways : NoAttr K c.day "ways"
  n_Day_posted : NoAttr K c.day "posted"
  n_Day_stood : NoAttr K c.day "stood"
  n_Day_closed : NoAttr K c.day "closed"
  n_Day_gone : NoAttr K c.day "gone"
  cl_Walk : Cls K c.walk
  n_Walk_net : NoAttr K c.walk "net"
  n_Walk_posted : NoAttr K c.walk "posted"
  n_Walk_stood : NoAttr K c.walk "stood"
  n_Walk_last : NoAttr K c.walk "last"
  cl_AtHouse : Cls K c.atHouse
  n_AtHouse_at : NoAttr K c.atHouse "at"
  n_AtHouse_since : NoAttr K c.atHouse "since"
  cl_OnRoad : Cls K c.onRoad
  n_OnRoad_by : NoAttr K c.onRoad "by"
  n_OnRoad_due : NoAttr K c.onRoad "due"
  cl_AtHome : Cls K c.atHome
  n_AtHome_since : NoAttr K c.atHome "since"
  m_Net : mg "Net" = some (.ref c.net)
  m_Ways : mg "Ways" = some (.ref c.ways)
  m_Day : mg "Day" = some (.ref c.day)
  m_Walk : mg "Walk" = some (.ref c.walk)
  m_AtHouse : mg "AtHouse" = some (.ref c.atHouse)
  m_OnRoad : mg "OnRoad" = some (.ref c.onRoad)
  m_AtHome : mg "AtHome" = some (.ref c.atHome)
  m_NotYet : mg "NotYet" = some (.ref c.notYet)
  m_Spot : mg "Spot" = some (.ref c.spot)
  m_RoadError : mg "RoadError" = some (.ref c.roadErr)
  m_NoLetter : mg "NoLetter" = some (.ref c.noLetter)
  g_SMALL : ∃ u, mg "SMALL" = some u ∧ RelV (.str "abcdefghijklmnopqrstuvwxyz") u
  g_MOST_HOUSES : ∃ u, mg "MOST_HOUSES" = some u ∧ RelV (.int 12) u
  g_MOST_ROADS : ∃ u, mg "MOST_ROADS" = some u ∧ RelV (.int 40) u
  g_LONGEST : ∃ u, mg "LONGEST" = some u ∧ RelV (.int 9) u
  g_WIDEST : ∃ u, mg "WIDEST" = some u ∧ RelV (.int 1000000000) u
  g_MOST_LETTERS : ∃ u, mg "MOST_LETTERS" = some u ∧ RelV (.int 40) u
  g_LATEST : ∃ u, mg "LATEST" = some u ∧ RelV (.int 1000000000) u
  g_WIDEST_SPAN : ∃ u, mg "WIDEST_SPAN" = some u ∧ RelV (.int 30) u
  b_int : mg "int" = none
  b_str : mg "str" = none
  b_bool : mg "bool" = none
  b_list : mg "list" = none
  b_tuple : mg "tuple" = none
  b_ValueError : mg "ValueError" = none
  b_len : mg "len" = none
  b_isinstance : mg "isinstance" = none
  b_all : mg "all" = none
  b_sum : mg "sum" = none
  b_max : mg "max" = none
  b_min : mg "min" = none
  b_sorted : mg "sorted" = none
  b_range : mg "range" = none
  b_enumerate : mg "enumerate" = none
  b_zip : mg "zip" = none
  b_set : mg "set" = none
  d_NoLetter_init : IniX K c.noLetter "NoLetter.__init__" s_NoLetter_init
  d_is_whole : DefX K mg "is_whole" s_is_whole
  d_is_name : DefX K mg "is_name" s_is_name
  d_are_houses : DefX K mg "are_houses" s_are_houses
  d_is_road : DefX K mg "is_road" s_is_road
  d_Net_init : MakX K c.net "Net.__init__" s_Net_init
  d_Net_houses : MethX K c.net "houses" "Net.houses" s_Net_houses
  d_Net_roads : MethX K c.net "roads" "Net.roads" s_Net_roads
  d_Net_road : MethX K c.net "road" "Net.road" s_Net_road
  d_Net_known : MethX K c.net "known" "Net.known" s_Net_known
  d_Net_out_of : MethX K c.net "out_of" "Net.out_of" s_Net_out_of
  d_fars : DefX K mg "fars" s_fars
  d_is_letter : DefX K mg "is_letter" s_is_letter
  d_letters_of : DefX K mg "letters_of" s_letters_of
  d_AtHouse_init : MakX K c.atHouse "AtHouse.__init__" s_AtHouse_init
  d_OnRoad_init : MakX K c.onRoad "OnRoad.__init__" s_OnRoad_init
  d_AtHome_init : MakX K c.atHome "AtHome.__init__" s_AtHome_init
  d_later : DefX K mg "later" s_later
  d_going : DefX K mg "going" s_going
  d_bags_of : DefX K mg "bags_of" s_bags_of
  d_left_behind : DefX K mg "left_behind" s_left_behind
  d_Ways_init : MakX K c.ways "Ways.__init__" s_Ways_init
  d_Ways_need_pair : MethX K c.ways "need_pair" "Ways.need_pair" s_Ways_need_pair
  d_Ways_set_way : MethX K c.ways "set_way" "Ways.set_way" s_Ways_set_way
  d_Ways_drop_way : MethX K c.ways "drop_way" "Ways.drop_way" s_Ways_drop_way
  d_shortest : DefX K mg "shortest" s_shortest
  d_is_first : DefX K mg "is_first" s_is_first
  d_Day_init : MakX K c.day "Day.__init__" s_Day_init
  d_Day_now : MethX K c.day "now" "Day.now" s_Day_now
  d_Day_post : MethX K c.day "post" "Day.post" s_Day_post
  d_Day_set_way : MethX K c.day "set_way" "Day.set_way" s_Day_set_way
  d_Day_drop_way : MethX K c.day "drop_way" "Day.drop_way" s_Day_drop_way
  d_Day_shut : MethX K c.day "shut" "Day.shut" s_Day_shut
  d_Day_reopen : MethX K c.day "reopen" "Day.reopen" s_Day_reopen
  d_Day_settle : MethX K c.day "settle" "Day.settle" s_Day_settle
  d_Day_pass_turn : MethX K c.day "pass_turn" "Day.pass_turn" s_Day_pass_turn
  d_Day_log : MethX K c.day "log" "Day.log" s_Day_log
  d_Day_letters : MethX K c.day "letters" "Day.letters" s_Day_letters
  d_Day_spot : MethX K c.day "spot" "Day.spot" s_Day_spot
  d_is_number : DefX K mg "is_number" s_is_number
  d_is_bag : DefX K mg "is_bag" s_is_bag
  d_Walk_init : MakX K c.walk "Walk.__init__" s_Walk_init
  d_Walk_lies_at : MethX K c.walk "lies_at" "Walk.lies_at" s_Walk_lies_at
  d_Walk_are_letters : MethX K c.walk "are_letters" "Walk.are_letters" s_Walk_are_letters
  d_Walk_amiss : MethX K c.walk "amiss" "Walk.amiss" s_Walk_amiss
  d_Walk_send : MethX K c.walk "send" "Walk.send" s_Walk_send
  d_stops_at : DefX K mg "stops_at" s_stops_at
  d_spots_at : DefX K mg "spots_at" s_spots_at
  d__law_cell_at : DefX K mg "_law_cell_at" s__law_cell_at
  d__law_houses : DefX K mg "_law_houses" s__law_houses
  d__law_road : DefX K mg "_law_road" s__law_road
  d__law_change : DefX K mg "_law_change" s__law_change
  d__law_told : DefX K mg "_law_told" s__law_told
  d__law_bag_fits : DefX K mg "_law_bag_fits" s__law_bag_fits
  d__law_due : DefX K mg "_law_due" s__law_due
  d__law_walked : DefX K mg "_law_walked" s__law_walked
  d__law_nobody : DefX K mg "_law_nobody" s__law_nobody
  d__law_turns : DefX K mg "_law_turns" s__law_turns
  d__law_noted : DefX K mg "_law_noted" s__law_noted
  d__law_spot_right : DefX K mg "_law_spot_right" s__law_spot_right
  d_law : DefX K mg "law" s_law
  new_NotYet : New0 K c.notYet
  kitI : ∀ a : Kd, KdC K (c.k a)
  kitK : ∀ a b : Kd, PySem.W.kitOne K (.ref (c.k a)) (.ref (c.k b)) = some (decide (a = b))
  kitS : ∀ a : Kd, PySem.W.kitOne K (.ref (c.k a)) (.ref c.spot) = some true
  exO : OexC K c.noLetter
  exK : KeepC K c.noLetter
  exB : BaseInit K c.roadErr
  exN : PySem.W.findIn K (.ref c.noLetter) "number" = some none
  exM : PySem.W.exmOne K (.ref c.noLetter) (.ref c.noLetter) = some true
  exR : PySem.W.kitOne K (.ref c.noLetter) (.ref c.roadErr) = some true
  exV : PySem.W.kitOne K (.ref c.noLetter) (.type "ValueError") = some true
section
variable {K : PySem.W.Frag} {mg : Str → Option Value} {c : Cs}
theorem Txt.c_NotYet (T : Txt K mg c) : ∃ u, mg "NotYet" = some u ∧ RelV (.ref c.notYet) u := ⟨_, T.m_NotYet, rfl⟩
theorem Txt.c_AtHouse (T : Txt K mg c) : ∃ u, mg "AtHouse" = some u ∧ RelV (.ref c.atHouse) u := ⟨_, T.m_AtHouse, rfl⟩
theorem Txt.c_OnRoad (T : Txt K mg c) : ∃ u, mg "OnRoad" = some u ∧ RelV (.ref c.onRoad) u := ⟨_, T.m_OnRoad, rfl⟩
theorem Txt.c_AtHome (T : Txt K mg c) : ∃ u, mg "AtHome" = some u ∧ RelV (.ref c.atHome) u := ⟨_, T.m_AtHome, rfl⟩
theorem Txt.c_Spot (T : Txt K mg c) : ∃ u, mg "Spot" = some u ∧ RelV (.ref c.spot) u := ⟨_, T.m_Spot, rfl⟩
theorem Txt.c_RoadError (T : Txt K mg c) : ∃ u, mg "RoadError" = some u ∧ RelV (.ref c.roadErr) u := ⟨_, T.m_RoadError, rfl⟩
theorem SptAt.ty {H : Hp} {a : Addr} {sp : Spt} (T : Txt K mg c) (h : SptAt c H a sp) : TyX K H (.ref a) (.ref (c.k sp.kd)) := by
  obtain ⟨dx, e⟩ := h
  have q := T.kitI sp.kd
  exact .base (.ins e q.cl q.ha q.hn q.ht q.hm)
/-- isinstance(x, T) for built-in types -/
theorem isi_ty {H : Hp} {x : V} {a b : String} {r : Bool} {Q : VK} (t : TyX K H x (.type a)) (h : kitB a b = some r) (q : Q (.bl r) H) : rIsi K [x, .ty b] H Q := ⟨x, .ty b, _, _, r, rfl, .ty b, t, kit_ty h, q⟩
/-- isinstance(spot, C) -/
theorem isi_sp {H : Hp} {a : Addr} {sp : Spt} {Q : VK} (T : Txt K mg c) (k : Kd) (h : SptAt c H a sp) (q : Q (.bl (decide (sp.kd = k))) H) : rIsi K [.ref a, .ref (c.k k)] H Q := ⟨_, _, _, _, _, rfl, .own _, h.ty T, T.kitK _ _, q⟩
theorem isi_spS {H : Hp} {a : Addr} {sp : Spt} {Q : VK} (T : Txt K mg c) (h : SptAt c H a sp) (q : Q (.bl true) H) : rIsi K [.ref a, .ref c.spot] H Q := ⟨_, _, _, _, _, rfl, .own _, h.ty T, T.kitS _, q⟩
end
section
variable {P : Program} {w : World} {K : PySem.W.Frag} {mg : Str → Option Value} {base : Heap}
/-- a def by its body -/
theorem cal_of {x : Str} {st : Stmt} {N ps : List Str} {k : Nat} {sp : Sp} (D : DefX K mg x st) (S : FnScope N ps (defScope st))
    (hb : ∀ (kV doc pm : Value) (an : Option Addr) (cdv ct : Value) (us : List Value), us.length = ps.length → bindArgs (PySem.W.fnOf x x (defArgs st) (defBody st) (defScope st) .none kV doc pm an cdv ct) ⟨us, []⟩ = pure (ps.zip us))
    (len : ∀ vs H Q E, sp vs H Q E → vs.length = ps.length)
    (hbody : ∀ (f : Addr) (cdv : Value) (A : Around) (outer : List Env) (s : Shared) (H : Hp) (vs : List V) (Q : VK) (E : XK), Room k (A.deeper (envOfC x (defScope st) s.heap.objs.size f cdv)) → sp vs H Q E →
      ∃ t, PSs (cxOf CX0 P w K mg base N x (defScope st) f cdv A outer s H E).nox (defBody st) t ∧ t { nx := fun _ H' => Q .non H', rt := Q } (start N vs) H) : C8.Cal P w K mg base (k + 1) x sp [] := by
  obtain ⟨f, fd, F, hm⟩ := D.ex
  exact ⟨f, fd, ps, [], F.ok S len (hbody f), hm, F.kp, F.binds hb, .nil⟩
theorem met_of {C : Addr} {m qual : Str} {st : Stmt} {N ps : List Str} {k : Nat} {sp : Sp} (c : Cls K C) (D : MethX K C m qual st) (S : FnScope N ps (defScope st))
    (hb : ∀ (kV doc pm : Value) (an : Option Addr) (cdv ct : Value) (us : List Value), us.length = ps.length → bindArgs (PySem.W.fnOf m qual (defArgs st) (defBody st) (defScope st) .none kV doc pm an cdv ct) ⟨us, []⟩ = pure (ps.zip us))
    (len : ∀ vs H Q E, sp vs H Q E → vs.length = ps.length)
    (hbody : ∀ (f : Addr) (cdv : Value) (A : Around) (outer : List Env) (s : Shared) (H : Hp) (vs : List V) (Q : VK) (E : XK), Room k (A.deeper (envOfC qual (defScope st) s.heap.objs.size f cdv)) → sp vs H Q E →
      ∃ t, PSs (cxOf CX0 P w K mg base N qual (defScope st) f cdv A outer s H E).nox (defBody st) t ∧ t { nx := fun _ H' => Q .non H', rt := Q } (start N vs) H) : C8.Met P w K mg base (k + 1) C m sp [] := by
  obtain ⟨f, fd, me, F⟩ := D.ex
  exact ⟨f, fd, ps, [], c, me, F.ok S len (hbody f), F.binds hb, .nil⟩
theorem mak_of {C : Addr} {x qual : Str} {st : Stmt} {N ps : List Str} {k : Nat} {sp : Sp} (hm : mg x = some (.ref C)) (D : MakX K C qual st) (S : FnScope N ps (defScope st))
    (hb : ∀ (kV doc pm : Value) (an : Option Addr) (cdv ct : Value) (us : List Value), us.length = ps.length → bindArgs (PySem.W.fnOf "__init__" qual (defArgs st) (defBody st) (defScope st) .none kV doc pm an cdv ct) ⟨us, []⟩ = pure (ps.zip us))
    (len : ∀ vs H Q E, sp vs H Q E → vs.length = ps.length)
    (hbody : ∀ (f : Addr) (cdv : Value) (A : Around) (outer : List Env) (s : Shared) (H : Hp) (vs : List V) (Q : VK) (E : XK), Room k (A.deeper (envOfC qual (defScope st) s.heap.objs.size f cdv)) → sp vs H Q E →
      ∃ t, PSs (cxOf CX0 P w K mg base N qual (defScope st) f cdv A outer s H E).nox (defBody st) t ∧ t { nx := fun _ H' => Q .non H', rt := Q } (start N vs) H) : C8.Mak P w K mg base (k + 1) x C sp [] := by
  obtain ⟨f, fd, M, F⟩ := D.ex
  exact ⟨f, fd, ps, [], M, F.ok S len (hbody f), hm, F.binds hb, .nil⟩
end
end PR
set_option Elab.async false
set_option maxRecDepth 100000
set_option linter.all false
/-! Values and answers that change nothing (Val, Ans), further ones. -/
namespace PR
open PySem PySem.Spec PyProof.Rows L2
section
variable {K : PySem.W.Frag} {mg : Str → Option Value} {c : Cs} {σ : L2.St} {H : Hp} {i : Nat} {v x y z : V} {ta tb tc te tv : TE} {a b : Bool} {p dx C : Addr} {fs : List (Str × V)} {f : Str} {t u : TT} {r r' : R2} {xs : List V}
theorem Val.to (h : Val te σ H v) (e : v = x) : Val te σ H x := e ▸ h
theorem val_cb1 {r : List V → Hp → VK → Prop} (ha : Val ta σ H x) (hr : ∀ Q : VK, Q v H → r [x] H Q) : Val (tCB r (tCons ta tNil)) σ H v := by
  intro Q q
  refine ha _ ?_
  exact hr _ q
theorem val_cb2 {r : List V → Hp → VK → Prop} (ha : Val ta σ H x) (hb : Val tb σ H y) (hr : ∀ Q : VK, Q v H → r [x, y] H Q) : Val (tCB r (tCons ta (tCons tb tNil))) σ H v := by
  intro Q q
  refine ha _ ?_
  refine hb _ ?_
  exact hr _ q
theorem val_isiT {m n : String} (ha : Val ta σ H x) (t : TyX K H x (.type m)) (h : kitB m n = some a) : Val (tCB (rIsi K) (tCons ta (tCons (tC (.ty n)) tNil))) σ H (.bl a) :=
  val_cb2 ha val_c fun _ q => isi_ty t h q
theorem val_isiK {q : Addr} {sp : Spt} (T : Txt K mg c) (k : Kd) (S : SptAt c H q sp) (ha : Val ta σ H (.ref q)) : Val (tCB (rIsi K) (tCons ta (tCons (tC (.ref (c.k k))) tNil))) σ H (.bl (decide (sp.kd = k))) :=
  val_cb2 ha val_c fun _ q => isi_sp T k S q
theorem val_and (h1 : Val ta σ H (.bl a)) (h2 : a = true → Val tb σ H (.bl b)) : Val (tAndV ta tb) σ H (.bl (a && b)) := by
  intro Q q
  refine h1 _ ⟨a, rfl, ?_⟩
  cases a with
  | true => exact iteT (h2 rfl _ q)
  | false => exact iteF q
theorem val_or (h1 : Val ta σ H (.bl a)) (h2 : a = false → Val tb σ H (.bl b)) : Val (tOrV ta tb) σ H (.bl (a || b)) := by
  intro Q q
  refine h1 _ ⟨a, rfl, ?_⟩
  cases a with
  | true => exact iteT q
  | false => exact iteF (h2 rfl _ q)
theorem val_not (h1 : Val ta σ H (.bl a)) : Val (tNotV ta) σ H (.bl (!a)) := by
  intro Q q
  exact h1 _ ⟨a, rfl, q⟩
theorem val_chain (h1 : Val ta σ H x) (h2 : Val tb σ H y) (hr : ∀ Q : VK, Q (.bl a) H → r x y H Q) (h3 : a = true → Val tc σ H z) (hr' : a = true → ∀ Q : VK, Q (.bl b) H → r' y z H Q) : Val (tChain r r' ta tb tc) σ H (.bl (a && b)) := by
  intro Q q
  refine h1 _ ?_
  refine h2 _ ?_
  refine hr _ ⟨a, rfl, ?_⟩
  cases a with
  | true => exact iteT (h3 rfl _ (hr' rfl _ q))
  | false => exact iteF q
theorem v_lele {i j k : Int} (h1 : Val ta σ H (.int i)) (h2 : Val tb σ H (.int j)) (h3 : Val tc σ H (.int k)) : Val (tChain (rI0 fun i j => .bl (decide (i ≤ j))) (rI0 fun i j => .bl (decide (i ≤ j))) ta tb tc) σ H (.bl (decide (i ≤ j) && decide (j ≤ k))) :=
  val_chain h1 h2 (fun _ q => ⟨i, j, rfl, rfl, q⟩) (fun _ => h3) (fun _ _ q => ⟨j, k, rfl, rfl, q⟩)
theorem v_lelt {i j k : Int} (h1 : Val ta σ H (.int i)) (h2 : Val tb σ H (.int j)) (h3 : Val tc σ H (.int k)) : Val (tChain (rI0 fun i j => .bl (decide (i ≤ j))) (rI0 fun i j => .bl (decide (i < j))) ta tb tc) σ H (.bl (decide (i ≤ j) && decide (j < k))) :=
  val_chain h1 h2 (fun _ q => ⟨i, j, rfl, rfl, q⟩) (fun _ => h3) (fun _ _ q => ⟨j, k, rfl, rfl, q⟩)
theorem ans_test (h : Val te σ H (.bl a)) : Ans (tTest te) σ H a := by
  intro Q q
  exact h _ ⟨a, rfl, q⟩
theorem ans_and' (h1 : Ans t σ H a) (h2 : a = true → Ans u σ H b) : Ans (tAnd t u) σ H (a && b) := by
  cases a with
  | true => exact ans_and h1 (h2 rfl)
  | false => exact ans_and0 h1
theorem ans_or' (h1 : Ans t σ H a) (h2 : a = false → Ans u σ H b) : Ans (tOr t u) σ H (a || b) := by
  cases a with
  | true => exact ans_or1 h1
  | false => exact ans_or h1 (h2 rfl)
/-- ints compared -/
theorem v_le {i j : Int} (ha : Val ta σ H (.int i)) (hb : Val tb σ H (.int j)) : Val (tOp (rI0 fun i j => .bl (decide (i ≤ j))) ta tb) σ H (.bl (decide (i ≤ j))) := val_op ha hb fun _ q => ⟨i, j, rfl, rfl, q⟩
theorem v_lt {i j : Int} (ha : Val ta σ H (.int i)) (hb : Val tb σ H (.int j)) : Val (tOp (rI0 fun i j => .bl (decide (i < j))) ta tb) σ H (.bl (decide (i < j))) := val_op ha hb fun _ q => ⟨i, j, rfl, rfl, q⟩
theorem v_gt {i j : Int} (ha : Val ta σ H (.int i)) (hb : Val tb σ H (.int j)) : Val (tOp (rI0 fun i j => .bl (decide (j < i))) ta tb) σ H (.bl (decide (j < i))) := val_op ha hb fun _ q => ⟨i, j, rfl, rfl, q⟩
theorem v_add {i j : Int} (ha : Val ta σ H (.int i)) (hb : Val tb σ H (.int j)) : Val (tOp (rI0 fun i j => .int (i + j)) ta tb) σ H (.int (i + j)) := val_op ha hb fun _ q => ⟨i, j, rfl, rfl, q⟩
theorem v_sub {i j : Int} (ha : Val ta σ H (.int i)) (hb : Val tb σ H (.int j)) : Val (tOp (rI0 fun i j => .int (i - j)) ta tb) σ H (.int (i - j)) := val_op ha hb fun _ q => ⟨i, j, rfl, rfl, q⟩
theorem v_mod {i j : Int} (ha : Val ta σ H (.int i)) (hb : Val tb σ H (.int j)) (h : 0 < j) : Val (tOp (rI (fun _ j => 0 < j) fun i j => .int (i % j)) ta tb) σ H (.int (i % j)) := val_op ha hb fun _ q => ⟨i, j, rfl, rfl, h, q⟩
theorem v_fdiv {i j : Int} (ha : Val ta σ H (.int i)) (hb : Val tb σ H (.int j)) (h : CDiv i j) : Val (tOp (rI CDiv fun i j => .int (i / j)) ta tb) σ H (.int (i / j)) := val_op ha hb fun _ q => ⟨i, j, rfl, rfl, h, q⟩
theorem v_mul {i j : Int} (ha : Val ta σ H (.int i)) (hb : Val tb σ H (.int j)) (h : CMul i j) : Val (tOp (rI CMul fun i j => .int (i * j)) ta tb) σ H (.int (i * j)) := val_op ha hb fun _ q => ⟨i, j, rfl, rfl, h, q⟩
theorem v_pow {i j : Int} (ha : Val ta σ H (.int i)) (hb : Val tb σ H (.int j)) (h : CPow i j) : Val (tOp (rI CPow fun i j => .int (i ^ j.toNat)) ta tb) σ H (.int (i ^ j.toNat)) := val_op ha hb fun _ q => ⟨i, j, rfl, rfl, h, q⟩
theorem v_eq (ha : Val ta σ H x) (hb : Val tb σ H y) (hs : scal x y = true) : Val (tOp rEq ta tb) σ H (.bl (decide (x = y))) := val_op ha hb fun _ q => ⟨hs, q⟩
theorem v_ne (ha : Val ta σ H x) (hb : Val tb σ H y) (hs : scal x y = true) : Val (tOp rNe ta tb) σ H (.bl (!decide (x = y))) := val_op ha hb fun _ q => ⟨hs, q⟩
theorem v_isN (ha : Val ta σ H x) : Val (tOp (fun x y H Q => y = .non ∧ Q (.bl (decide (x = .non))) H) ta (tC .non)) σ H (.bl (decide (x = .non))) := val_op ha val_c fun _ q => ⟨rfl, q⟩
theorem v_notN (ha : Val ta σ H x) : Val (tOp (fun x y H Q => y = .non ∧ Q (.bl (!decide (x = .non))) H) ta (tC .non)) σ H (.bl (!decide (x = .non))) := val_op ha val_c fun _ q => ⟨rfl, q⟩
/-- xs[i], t[i] -/
theorem v_ixL {i : Int} (hs : SqL K H p xs) (ha : Val ta σ H (.ref p)) (hb : Val tb σ H (.int i)) (h : atI xs i = some v) : Val (tOp (rIxL K) ta tb) σ H v := val_op ha hb fun _ q => ⟨p, xs, i, v, rfl, rfl, hs, h, q⟩
theorem v_ixT {i : Int} (hs : SqT K H p xs) (ha : Val ta σ H (.ref p)) (hb : Val tb σ H (.int i)) (h : atI xs i = some v) : Val (tOp (rIxT K) ta tb) σ H v := val_op ha hb fun _ q => ⟨p, xs, i, v, rfl, rfl, hs, h, q⟩
theorem v_ixTn {j : Nat} (hs : SqT K H p xs) (ha : Val ta σ H (.ref p)) (h : xs[j]? = some v) : Val (tOp (rIxT K) ta (tC (.int (j : Int)))) σ H v := v_ixT hs ha val_c (atI_nat h)
/-- len -/
theorem v_lenL (hs : SqL K H p xs) (ha : Val ta σ H (.ref p)) : Val (tCB (fun xs H Q => ∃ p ys, xs = [.ref p] ∧ (SqL K H p ys ∨ SqT K H p ys) ∧ Q (.int ys.length) H) (tCons ta tNil)) σ H (.int (xs.length : Int)) :=
  val_cb1 ha fun _ q => ⟨p, xs, rfl, .inl hs, q⟩
theorem v_lenT (hs : SqT K H p xs) (ha : Val ta σ H (.ref p)) : Val (tCB (fun xs H Q => ∃ p ys, xs = [.ref p] ∧ (SqL K H p ys ∨ SqT K H p ys) ∧ Q (.int ys.length) H) (tCons ta tNil)) σ H (.int (xs.length : Int)) :=
  val_cb1 ha fun _ q => ⟨p, xs, rfl, .inr hs, q⟩
/-- in, not in, of flat things -/
theorem v_in (hs : SqL K H p xs ∨ SqT K H p xs) (ha : Val ta σ H x) (hb : Val tb σ H (.ref p)) (hx : flatV x = true) (hf : xs.all flatV = true) : Val (tOp (rIn K false) ta tb) σ H (.bl (inV x xs)) := val_op ha hb fun _ q => ⟨p, xs, rfl, hs, hx, hf, q⟩
theorem v_notIn (hs : SqL K H p xs ∨ SqT K H p xs) (ha : Val ta σ H x) (hb : Val tb σ H (.ref p)) (hx : flatV x = true) (hf : xs.all flatV = true) : Val (tOp (rIn K true) ta tb) σ H (.bl (!inV x xs)) := val_op ha hb fun _ q => ⟨p, xs, rfl, hs, hx, hf, q⟩
/-- equality of data -/
theorem v_eqD {d e : PyData} (ha : Val ta σ H x) (hb : Val tb σ H y) (h1 : Dp K H x d) (h2 : Dp K H y e) (s1 : SeqAt.shaped d = true) (s2 : SeqAt.shaped e = true) : Val (tOp (rEqD K) ta tb) σ H (.bl (PyData.eqv d e)) := val_op ha hb fun _ q => ⟨d, e, h1, h2, s1, s2, q⟩
theorem v_neD {d e : PyData} (ha : Val ta σ H x) (hb : Val tb σ H y) (h1 : Dp K H x d) (h2 : Dp K H y e) (s1 : SeqAt.shaped d = true) (s2 : SeqAt.shaped e = true) : Val (tOp (rNeD K) ta tb) σ H (.bl (!PyData.eqv d e)) := val_op ha hb fun _ q => ⟨d, e, h1, h2, s1, s2, q⟩
/-- dicts -/
theorem v_dget {q : Addr} (g : DGet H q y (some v)) (ha : Val ta σ H (.ref q)) (hb : Val tb σ H y) : Val (tDGet ta tb) σ H v := by
  intro Q k
  refine ha _ ?_
  refine hb _ ?_
  exact ⟨q, v, rfl, g, k⟩
theorem v_din {q : Addr} {o : Option V} (g : DGet H q y o) (ha : Val ta σ H y) (hb : Val tb σ H (.ref q)) : Val (tDIn ta tb) σ H (.bl o.isSome) := by
  intro Q k
  refine ha _ ?_
  refine hb _ ?_
  exact ⟨q, o, rfl, g, k⟩
theorem v_dget2 {q : Addr} {o : Option V} (d : IsD H q) (g : DGet H q y o) (ha : Val ta σ H (.ref q)) (hb : Val tb σ H y) (hc : Val tc σ H z) : Val (tDGet2 ta tb tc) σ H (o.getD z) := by
  intro Q k
  refine ha _ ?_
  refine ⟨q, rfl, d, ?_⟩
  refine hb _ ?_
  refine hc _ ?_
  exact ⟨o, g, k⟩
/-- a call that changes nothing -/
theorem v_call1 {sp : Sp} {E : XK} (ha : Val ta σ H x) (hr : ∀ Q : VK, Q v H → sp [x] H Q E) : Val (tCall sp [] E (tCons ta tNil)) σ H v := by
  intro Q q
  refine ha _ ?_
  exact hr _ q
theorem v_call2 {sp : Sp} {E : XK} (ha : Val ta σ H x) (hb : Val tb σ H y) (hr : ∀ Q : VK, Q v H → sp [x, y] H Q E) : Val (tCall sp [] E (tCons ta (tCons tb tNil))) σ H v := by
  intro Q q
  refine ha _ ?_
  refine hb _ ?_
  exact hr _ q
theorem v_call3 {sp : Sp} {E : XK} (ha : Val ta σ H x) (hb : Val tb σ H y) (hc : Val tc σ H z) (hr : ∀ Q : VK, Q v H → sp [x, y, z] H Q E) : Val (tCall sp [] E (tCons ta (tCons tb (tCons tc tNil)))) σ H v := by
  intro Q q
  refine ha _ ?_
  refine hb _ ?_
  refine hc _ ?_
  exact hr _ q
theorem v_meth0 {sp : Sp} {E : XK} {m : Str} (ha : Val ta σ H (.ref p)) (ho : H p = some (.ins C dx fs)) (hl : fs.lookup m = none) (hr : ∀ Q : VK, Q v H → sp [.ref p] H Q E) : Val (tMeth C m sp [] E ta tNil) σ H v := by
  intro Q q
  refine ha _ ?_
  exact ⟨p, dx, fs, rfl, ho, hl, hr _ q⟩
theorem v_meth1 {sp : Sp} {E : XK} {m : Str} (ha : Val ta σ H (.ref p)) (ho : H p = some (.ins C dx fs)) (hl : fs.lookup m = none) (hb : Val tb σ H x) (hr : ∀ Q : VK, Q v H → sp [.ref p, x] H Q E) : Val (tMeth C m sp [] E ta (tCons tb tNil)) σ H v := by
  intro Q q
  refine ha _ ?_
  refine ⟨p, dx, fs, rfl, ho, hl, ?_⟩
  refine hb _ ?_
  exact hr _ q
/-- the statement's if, by its answer -/
theorem st_if {D : Ends} {t1 t2 : TS} (h : Ans t σ H a) (h1 : a = true → t1 D σ H) (h2 : a = false → t2 D σ H) : tIfS t t1 t2 D σ H := by
  cases a with
  | true => exact st_yes h (h1 rfl)
  | false => exact st_no h (h2 rfl)
theorem ix_tupK {X : Cx} {K : PySem.W.Frag} (h : X.K = K) : IxR X (rIxT K) := by subst h; exact ix_tup
theorem ix_listK {X : Cx} {K : PySem.W.Frag} (h : X.K = K) : IxR X (rIxL K) := by subst h; exact ix_list
theorem pe_fldK {X : Cx} {K : PySem.W.Frag} {e : Expr} {te : TE} {f : Str} {pos : Pos} (h : X.K = K) (he : PE X e te) (hb : attributeBase e f X.env (eval e X.env) = eval e X.env) : PE X (.Attribute e f pos) (tFld K te f) := by subst h; exact pe_fld he hb
theorem call_lenK {X : Cx} {K : PySem.W.Frag} (h : X.K = K) : CallR X (.builtin "len") (fun xs H Q => ∃ p ys, xs = [.ref p] ∧ (SqL K H p ys ∨ SqT K H p ys) ∧ Q (.int ys.length) H) := by subst h; exact call_len_seq
theorem call_isiK' {X : Cx} {K : PySem.W.Frag} (h : X.K = K) : CallR X (.builtin "isinstance") (rIsi K) := by subst h; exact call_isi
theorem pg_tupK {X : Cx} {K : PySem.W.Frag} {es : List Expr} {k : Nat} {pos : Pos} {t : TGs} (n' : Nat) (h : X.K = K) (hc : X.calm = true) (hs : PGs X es t) (hn : (assignEach es X.env).length = n' := by rfl) (hst : (assignEach es X.env).findIdx? (·.1) = none := by rfl) : PG X (.Tuple es k pos) (gTup K n' t) := by subst h; exact pg_tup hc hs hn hst
theorem sq_seq {D : Ends} {t1 t2 : TS} (h : t1 { D with nx := t2 D } σ H) : tSeq t1 t2 D σ H := h
end
end PR
set_option Elab.async false
set_option maxRecDepth 100000
set_option linter.all false
set_option maxHeartbeats 1000000
/-! Small tests, the net. -/
namespace PR
open PySem PySem.Spec PyProof.Rows L2
/-- a name: one to eight small letters -/
def NameOk (z : Str) : Prop := 1 ≤ z.length ∧ z.length ≤ 8 ∧ ∀ ch ∈ z.cps.toList, 97 ≤ ch ∧ ch ≤ 122
structure LnOk (names : List Str) (l : Ln) : Prop where
  fr : l.fr ∈ names
  to : l.to ∈ names
  ne : l.fr ≠ l.to
  tn : 1 ≤ l.tn ∧ l.tn ≤ 9
  rm : 1 ≤ l.rm ∧ l.rm ≤ 1000000000
structure NtOk (N : Nt) : Prop where
  nm : ∀ z ∈ N.names, NameOk z
  nd : N.names.Nodup
  few : N.names.length ≤ 12
  ln : ∀ l ∈ N.lines, LnOk N.names l
  fl : N.lines.length ≤ 40
theorem sz_le {n : Nat} (h : n ≤ 100000) : n ≤ sizeLine := Nat.le_trans h (by decide)
theorem sz_lt {n : Nat} (h : n < 100000) : n < sizeLine := Nat.lt_of_lt_of_le h (by decide)
theorem inV_str {z : Str} : ∀ zs : List Str, inV (.str z) (zs.map V.str) = decide (z ∈ zs)
  | [] => rfl
  | a :: r => by
    have ih := inV_str (z := z) r
    show (eqV (.str a) (.str z) || inV (.str z) (r.map V.str)) = _
    rw [ih]
    by_cases h : a = z
    · subst h
      simp [eqV]
    · have h' : ¬ z = a := fun e => h e.symm
      have e : eqV (.str a) (.str z) = false := by simp [eqV, h]
      rw [e]
      simp [h']
theorem flat_str (zs : List Str) : (zs.map V.str).all flatV = true := by
  rw [List.all_map]
  exact List.all_eq_true.mpr fun _ _ => rfl
theorem sq_no {t : TT} {t1 rest : TS} {D : Ends} {σ : L2.St} {H : Hp} (h : Ans t σ H false) (q : rest D σ H) : tSeq (tIfS t t1 tNext) rest D σ H := sq_seq (st_no h q)
theorem sq_set {te : TE} {rest : TS} {i : Nat} {D : Ends} {σ : L2.St} {H : Hp} {v : V} (h : Val te σ H v) (q : rest D (σ.set i (some v)) H) : tSeq (tAsg te (gName i)) rest D σ H := sq_seq (st_set h q)
section
variable {P : Program} {w : World} {K : PySem.W.Frag} {mg : Str → Option Value} {base : Heap} {c : Cs}
/-! ### is_whole -/
def spWhole : Sp := fun vs H Q _ => ∃ t l g : Int, vs = [.int t, .int l, .int g] ∧ Q (.bl (decide (l ≤ t) && decide (t ≤ g))) H
theorem ok_is_whole (T : Txt K mg c) : C8.Cal P w K mg base 1 "is_whole" (spWhole) [] := by
  refine cal_of T.d_is_whole sc_is_whole (fun _ _ _ _ _ _ us hl => match us, hl with | [_, _, _], _ => rfl) (fun vs H Q E h => ?_) (fun f cdv A outer s H vs Q E hr h => ?_)
  · obtain ⟨t, l, g, rfl, _⟩ := h
    rfl
  · obtain ⟨t, l, g, rfl, k⟩ := h
    have hu := hu_of hr
    refine ⟨_, (pss_one (ps_ret (pe_and (pe_callB call_isi (by rfl) T.b_isinstance (by decide +kernel) (pa_cons (pv 0) (pa_cons (pe_bty (n := "int") rfl T.b_int (by decide +kernel)) pa_nil))) (pe_and (pe_not (pe_callB call_isi (by rfl) T.b_isinstance (by decide +kernel) (pa_cons (pv 0) (pa_cons (pe_bty (n := "bool") rfl T.b_bool (by decide +kernel)) pa_nil)))) (pe_one (pe_chain op_le op_le (pv 1) (pv 0) (pv 2))))))), ?_⟩
    exact st_ret (val_and (val_isiT (a := true) (val_var rfl) (.base (.int _)) (by decide +kernel)) fun _ => val_and (val_not (val_isiT (a := false) (val_var rfl) (.base (.int _)) (by decide +kernel))) fun _ =>
      v_lele (val_var rfl) (val_var rfl) (val_var rfl)) k
/-! ### is_name -/
theorem small_has {ch : Nat} (h : 97 ≤ ch ∧ ch ≤ 122) : ch ∈ ("abcdefghijklmnopqrstuvwxyz" : Str).cps.toList := by
  have e : ("abcdefghijklmnopqrstuvwxyz" : Str).cps.toList = (List.range 26).map (· + 97) := by decide +kernel
  rw [e]
  exact List.mem_map.mpr ⟨ch - 97, List.mem_range.mpr (by omega), by omega⟩
def spName : Sp := fun vs H Q _ => ∃ z : Str, vs = [.str z] ∧ NameOk z ∧ ∀ H', Same H H' → Q (.bl true) H'
theorem all_true : ∀ n : Nat, (List.replicate n true).all id = true
  | 0 => rfl
  | n + 1 => all_true n
theorem ok_is_name (T : Txt K mg c) : C8.Cal P w K mg base 1 "is_name" (spName) [] := by
  refine cal_of T.d_is_name sc_is_name (fun _ _ _ _ _ _ us hl => match us, hl with | [_], _ => rfl) (fun vs H Q E h => ?_) (fun f cdv A outer s H vs Q E hr h => ?_)
  · obtain ⟨z, rfl, _⟩ := h
    rfl
  · obtain ⟨z, rfl, ⟨n1, n2, n3⟩, k⟩ := h
    have hu := hu_of hr
    refine ⟨_, (pss_cons (ps_if (PW.pt (pw_or (pt_not (pt_val (pe_callB call_isi (by rfl) T.b_isinstance (by decide +kernel) (pa_cons (pv 0) (pa_cons (pe_bty (n := "str") rfl T.b_str (by decide +kernel)) pa_nil))))) (pw_or1 (pt_not (pt_chain op_le op_le pe_int (pe_callB call_len_str (by rfl) T.b_len PySem.boot_len (pa_cons (pv 0) pa_nil)) pe_int))))) (pss_one (ps_ret pe_bl)) pss_nil)
  (pss_one (ps_ret (pe_callB (cr_all rfl) (by rfl) T.b_all (by decide +kernel) (pa_cons (pe_lc (own := [("sign", 1)]) rfl sc_is_name.nd (pi_str (pv 0)) (blkOk_by (own := [("sign", 1)]) (N := N_is_name) (sc := defScope s_is_name) (by decide +kernel)) (fun _ _ _ _ _ => by exact (pg_name (i := 1) sc_is_name.nd rfl (Or.inl rfl))) (fun _ _ _ _ _ => by exact pts_nil) (fun _ _ _ _ _ => by exact (pe_cmpR op_in_sign (pv 1) (C8.pe_gc rfl T.g_SMALL) rfl))) pa_nil))))), ?_⟩
    have e1 : decide ((1 : Int) ≤ (z.length : Int)) = true := decide_eq_true (by omega)
    have e2 : decide ((z.length : Int) ≤ 8) = true := decide_eq_true (by omega)
    refine sq_no (Ans.to (ans_or' (ans_not (ans_val (val_isiT (a := true) (val_var rfl) (.base (.str _)) (by decide +kernel)))) fun _ => ans_not (ans_test (v_lele val_c
      (val_cb1 (val_var rfl) fun _ q => ⟨z, rfl, sz_le (by omega), q⟩) val_c))) (by rw [e1, e2] <;> rfl)) ?_
    -- all([sign in SMALL for sign in thing])
    refine ⟨_, rfl, z, rfl, fun D hD => lc_it walk_str (fun i H' => Same H H' ∧ H' D = some (.lst ((List.replicate i true).map V.bl))) ⟨Same.new hD, upd_same⟩ (fun _ _ _ _ => trivial) ?_ ?_⟩
    · rintro i x H1 H2 hi ⟨s, d⟩ ⟨rfl, ch, hc, rfl⟩
      have hm : ch ∈ z.cps.toList := by
        rw [← Array.getElem?_toList] at hc
        exact List.mem_of_getElem? hc
      refine ⟨rfl, ?_⟩
      refine ⟨_, rfl, ch, _, rfl, rfl, _, d, sz_lt (by rw [List.length_map, List.length_replicate]; have : i < z.cps.size := hi; have : z.cps.size = z.length := rfl; omega), s.mut hD, ?_⟩
      rw [decide_eq_true (small_has (n3 ch hm)), upd_same, List.replicate_succ', List.map_append]
      rfl
    · rintro H' ⟨s, d⟩
      refine ⟨D, _, rfl, SqL.of d, ?_⟩
      rw [all_true]
      exact k H' s
/-! ### are_houses -/
def spHouses (K : PySem.W.Frag) : Sp := fun vs H Q _ => ∃ (p : Addr) (zs : List Str), vs = [.ref p] ∧ SqL K H p (zs.map V.str) ∧ H p = some (.lst (zs.map V.str)) ∧ (∀ z ∈ zs, NameOk z) ∧ zs.Nodup ∧ zs.length ≤ 12 ∧ ∀ H', Same H H' → Q (.bl true) H'
theorem nodup_take {α : Type} {zs : List α} (nd : zs.Nodup) {i : Nat} {z : α} (h : zs[i]? = some z) : z ∉ zs.take i := fun hm => by
  obtain ⟨j, hj⟩ := List.getElem?_of_mem hm
  have hj' : j < i := by
    have := lt_of_at hj
    rw [List.length_take] at this
    omega
  rw [List.getElem?_take_of_lt hj'] at hj
  have h1 := lt_of_at h
  have h2 := lt_of_at hj
  have e1 : zs[i] = z := (List.getElem?_eq_some_iff.mp h).2
  have e2 : zs[j] = z := (List.getElem?_eq_some_iff.mp hj).2
  have := (List.getElem_inj nd (i := j) (j := i) (h₀ := h2) (h₁ := h1)).mp (e2.trans e1.symm)
  omega
theorem cut_to (xs : List V) (i : Nat) (h : i ≤ xs.length) : cutV xs none (some (i : Int)) = xs.take i := by
  show (xs.drop 0).take (HT.sIx xs.length xs.length (some (i : Int)) - 0) = _
  rw [HT.sIx_nat, List.drop_zero, Nat.sub_zero, Nat.min_eq_left h]
theorem ok_are_houses (T : Txt K mg c) : C8.Cal P w K mg base 2 "are_houses" (spHouses K) [] := by
  refine cal_of T.d_are_houses sc_are_houses (fun _ _ _ _ _ _ us hl => match us, hl with | [_], _ => rfl) (fun vs H Q E h => ?_) (fun f cdv A outer s H vs Q E hr h => ?_)
  · obtain ⟨p, zs, rfl, _⟩ := h
    rfl
  · obtain ⟨p, zs, rfl, hS, hp, hn, nd, hl, k⟩ := h
    have hu := hu_of hr
    have T_is_name := ok_is_name (P := P) (w := w) (base := base) T
    refine ⟨_, (pss_cons (ps_if (PW.pt (pw_or (pt_not (pt_val (pe_callB call_isi (by rfl) T.b_isinstance (by decide +kernel) (pa_cons (pv 0) (pa_cons (pe_bty (n := "list") rfl T.b_list (by decide +kernel)) pa_nil))))) (pw_or1 (pt_cmpR op_gt (pe_callB call_len_seq (by rfl) T.b_len PySem.boot_len (pa_cons (pv 0) pa_nil)) (C8.pe_gc rfl T.g_MOST_HOUSES) (nomark _))))) (pss_one (ps_ret pe_bl)) pss_nil)
  (pss_cons (ps_for PassesOwn.never rfl (pi_enum (by rfl) T.b_enumerate (pa_cons (pv 0) pa_nil)) (pg_tup rfl (pgs_cons (pg_name (i := 1) sc_are_houses.nd rfl (Or.inl rfl)) (pgs_cons (pg_name (i := 2) sc_are_houses.nd rfl (Or.inl rfl)) pgs_nil))) (pss_one (ps_if (PW.pt (pw_or (pt_not (pt_val (C8.pe_c T_is_name hr (by decide) rfl (pa_cons (pv 2) pa_nil)))) (pw_or1 (pt_cmpR op_in_seq (pv 2) (pe_slice sl_list (pv 0) po_none (po_some (pv 1))) rfl)))) (pss_one (ps_ret pe_bl)) pss_nil)))
  (pss_one (ps_ret pe_bl)))), ?_⟩
    refine sq_no (Ans.to (ans_or' (ans_not (ans_val (val_isiT (a := true) (val_var rfl) (.base (.lst hp)) (by decide +kernel)))) fun _ => ans_test (v_gt (v_lenL hS (val_var rfl)) val_c)) (by
      rw [List.length_map]
      exact decide_eq_false (by omega))) ?_
    refine ⟨_, rfl, p, _, rfl, hS, for_it walk_enum (fun i σ H' => ∃ o1 o2, σ = [some (.ref p), o1, o2] ∧ Same H H') ⟨_, _, rfl, Same.refl _⟩ (fun i σ H' _ ⟨_, _, _, s⟩ => s.seq hS) ?_ ?_⟩
    · rintro i x σ H1 H2 hi ⟨o1, o2, rfl, s⟩ ⟨T, x1, x2, rfl, hT, rfl, e1, e2⟩
      cases e1
      obtain ⟨z, hz, rfl⟩ := map_of e2
      refine ⟨T, _, rfl, SqT.of upd_same, rfl, _, _, rfl, _, _, rfl, rfl, ?_⟩
      refine ⟨_, rfl, z, rfl, hn z (List.mem_of_getElem? hz), fun H3 s3 => ⟨true, rfl, iteF ?_⟩⟩
      have s13 : Same H H3 := (s.trans (Same.new hT)).trans s3
      refine ⟨_, rfl, _, rfl, _, rfl, _, rfl, p, _, rfl, s13.seq hS, fun q hq => ⟨q, _, rfl, .inl (SqL.of upd_same), rfl, ?_, _, rfl, ?_⟩⟩
      · rw [cut_to _ _ (Nat.le_of_lt hi), ← List.map_take]
        exact flat_str _
      · rw [cut_to _ _ (Nat.le_of_lt hi), ← List.map_take, inV_str, decide_eq_false (nodup_take nd hz)]
        exact iteF ⟨_, _, rfl, s13.trans (Same.new hq)⟩
    · rintro σ H' ⟨_, _, rfl, s⟩
      exact k H' s
/-! ### is_road -/
def spRoad (K : PySem.W.Frag) : Sp := fun vs H Q _ => ∃ (p q : Addr) (l : Ln) (zs : List Str), vs = [.ref p, .ref q] ∧ LnAt H p l ∧ SqL K H q (zs.map V.str) ∧ (∀ z ∈ zs, NameOk z) ∧ LnOk zs l ∧ ∀ H', Same H H' → Q (.bl true) H'
theorem ok_is_road (T : Txt K mg c) : C8.Cal P w K mg base 2 "is_road" (spRoad K) [] := by
  refine cal_of T.d_is_road sc_is_road (fun _ _ _ _ _ _ us hl => match us, hl with | [_, _], _ => rfl) (fun vs H Q E h => ?_) (fun f cdv A outer s H vs Q E hr h => ?_)
  · obtain ⟨p, q, l, zs, rfl, _⟩ := h
    rfl
  · obtain ⟨p, q, l, zs, rfl, hp, hS, hn, ok, k⟩ := h
    have hu := hu_of hr
    have T_is_name := ok_is_name (P := P) (w := w) (base := base) T
    have T_is_whole := ok_is_whole (P := P) (w := w) (base := base) T
    refine ⟨_, (pss_cons (ps_if (PW.pt (pw_or (pt_not (pt_val (pe_callB call_isi (by rfl) T.b_isinstance (by decide +kernel) (pa_cons (pv 0) (pa_cons (pe_bty (n := "tuple") rfl T.b_tuple (by decide +kernel)) pa_nil))))) (pw_or1 (pt_cmpR op_ne (pe_callB call_len_seq (by rfl) T.b_len PySem.boot_len (pa_cons (pv 0) pa_nil)) pe_int (nomark _))))) (pss_one (ps_ret pe_bl)) pss_nil)
  (pss_cons (ps_for PassesOwn.never rfl (pi_tup (pe_slice sl_tup (pv 0) po_none (po_some pe_int))) (pg_name (i := 2) sc_is_road.nd rfl (Or.inl rfl)) (pss_one (ps_if (PW.pt (pw_or (pt_not (pt_val (C8.pe_c T_is_name hr (by decide) rfl (pa_cons (pv 2) pa_nil)))) (pw_or1 (pt_cmpR op_notIn_seq (pv 2) (pv 1) rfl)))) (pss_one (ps_ret pe_bl)) pss_nil)))
  (pss_one (ps_ret (pe_and (pe_cmpR op_ne (pe_ix ix_tup (pv 0) pe_int (fun _ _ => rfl)) (pe_ix ix_tup (pv 0) pe_int (fun _ _ => rfl)) (nomark _)) (pe_and (C8.pe_c T_is_whole hr (by decide) rfl (pa_cons (pe_ix ix_tup (pv 0) pe_int (fun _ _ => rfl)) (pa_cons pe_int (pa_cons (C8.pe_gc rfl T.g_LONGEST) pa_nil)))) (pe_one (C8.pe_c T_is_whole hr (by decide) rfl (pa_cons (pe_ix ix_tup (pv 0) pe_int (fun _ _ => rfl)) (pa_cons pe_int (pa_cons (C8.pe_gc rfl T.g_WIDEST) pa_nil))))))))))), ?_⟩
    have hT : SqT K H p (lnV l) := SqT.of hp
    refine sq_no (Ans.to (ans_or' (ans_not (ans_val (val_isiT (a := true) (val_var rfl) (.base (.tup hp)) (by decide +kernel)))) fun _ => ans_test (v_ne (v_lenT hT (val_var rfl)) val_c rfl)) rfl) ?_
    -- for end in thing[:2]
    refine ⟨_, rfl, _, rfl, p, _, rfl, hT, (by show ¬ (0 = 0 ∧ HT.sIx 4 4 (some 2) = 4); decide), fun r hr' => ⟨r, rfl, ⟨_, SqT.of upd_same⟩, ?_⟩⟩
    refine for_tup (K := K) (xs := [.str l.fr, .str l.to]) (fun i σ H' => ∃ o, σ = [some (.ref p), some (.ref q), o] ∧ Same H H' ∧ H' r = some (.tup [.str l.fr, .str l.to])) ⟨_, rfl, Same.new hr', upd_same⟩ (fun i σ H' _ ⟨_, _, _, e⟩ => SqT.of e) ?_ ?_
    · rintro i x σ H1 hi ⟨o, rfl, s, e⟩
      have hx : ∃ z, x = .str z ∧ z ∈ zs := by
        match i, hi with
        | 0, h => cases h; exact ⟨_, rfl, ok.fr⟩
        | 1, h => cases h; exact ⟨_, rfl, ok.to⟩
        | i + 2, h => simp at h
      obtain ⟨z, rfl, hz⟩ := hx
      refine ⟨_, rfl, z, rfl, hn z hz, fun H3 s3 => ⟨true, rfl, iteF ?_⟩⟩
      refine ⟨_, rfl, _, rfl, q, _, rfl, .inl ((s.trans s3).seq hS), rfl, flat_str _, _, rfl, ?_⟩
      rw [inV_str, decide_eq_true hz]
      exact iteF ⟨_, rfl, s.trans s3, s3 _ _ e⟩
    · rintro σ H1 ⟨o, rfl, s, _⟩
      have hT1 : SqT K H1 p (lnV l) := SqT.of (s _ _ hp)
      have w1 : ∀ (n g : Int) (tg : TE), Val tg _ H1 (.int g) → ∀ {te : TE}, Val te [some (.ref p), some (.ref q), o] H1 (.int n) → 1 ≤ n → n ≤ g → Val (tCall spWhole [] C8.E0 (tCons te (tCons (tC (.int 1)) (tCons tg tNil)))) [some (.ref p), some (.ref q), o] H1 (.bl true) := fun n g tg hg te ht h1 h2 =>
        v_call3 ht val_c hg fun Q q => ⟨n, 1, g, rfl, by rw [decide_eq_true h1, decide_eq_true h2]; exact q⟩
      refine st_ret (v := .bl true) (Val.to (val_and (a := true) (Val.to (v_ne (v_ixTn (j := 0) hT1 (val_var rfl) rfl) (v_ixTn (j := 1) hT1 (val_var rfl) rfl) rfl) (by
          rw [decide_eq_false (fun e => ok.ne (V.str.inj e))] <;> rfl)) fun _ => val_and (a := true) (w1 l.tn 9 _ val_c (v_ixTn (j := 2) hT1 (val_var rfl) rfl) ok.tn.1 ok.tn.2) fun _ => w1 l.rm 1000000000 _ val_c (v_ixTn (j := 3) hT1 (val_var rfl) rfl) ok.rm.1 ok.rm.2) rfl) (k H1 s)
end
end PR
set_option Elab.async false
set_option maxRecDepth 100000
set_option linter.all false
set_option maxHeartbeats 1000000
/-! The net's methods, the spots' __init__, later. -/
namespace PR
open PySem PySem.Spec PyProof.Rows L2
section
variable {P : Program} {w : World} {K : PySem.W.Frag} {mg : Str → Option Value} {base : Heap} {c : Cs}
/-! ### Net -/
def spNetInit (c : Cs) : Sp := fun vs H Q _ => ∃ (p dx hs rs : Addr) (N : Nt), vs = [.ref p, .ref hs, .ref rs] ∧ H p = some (.ins c.net dx []) ∧ H hs = some (.lst (N.names.map V.str)) ∧ LOf (LnAt H) H rs N.lines ∧ NtOk N ∧
  ∀ H', (∀ b o, H b = some o → b ≠ p → H' b = some o) → NetAt c H' p N → Q .non H'
theorem ok_Net_init (T : Txt K mg c) : C8.Mak P w K mg base 3 "Net" c.net (spNetInit c) [] := by
  refine mak_of T.m_Net T.d_Net_init sc_Net_init (fun _ _ _ _ _ _ us hl => match us, hl with | [_, _, _], _ => rfl) (fun vs H Q E h => ?_) (fun f cdv A outer s H vs Q E hr h => ?_)
  · obtain ⟨p, dx, hs, rs, N, rfl, _⟩ := h
    rfl
  · obtain ⟨p, dx, hs, rs, N, rfl, hp, hh, ⟨las, hl, pl⟩, ok, k⟩ := h
    have hu := hu_of hr
    have T_are_houses := ok_are_houses (P := P) (w := w) (base := base) T
    have T_is_road := ok_is_road (P := P) (w := w) (base := base) T
    refine ⟨_, (pss_cons (ps_if (PW.pt (pw_or (pt_not (pt_val (C8.pe_c T_are_houses hr (by decide) rfl (pa_cons (pv 1) pa_nil)))) (pw_or (pt_not (pt_val (pe_callB call_isi (by rfl) T.b_isinstance (by decide +kernel) (pa_cons (pv 2) (pa_cons (pe_bty (n := "list") rfl T.b_list (by decide +kernel)) pa_nil))))) (pw_or1 (pt_cmpR op_gt (pe_callB call_len_seq (by rfl) T.b_len PySem.boot_len (pa_cons (pv 2) pa_nil)) (C8.pe_gc rfl T.g_MOST_ROADS) (nomark _)))))) (pss_one ps_never) pss_nil)
  (pss_cons (ps_if (pt_not (pt_val (pe_callB (cr_all rfl) (by rfl) T.b_all (by decide +kernel) (pa_cons (pe_lc (own := [("one", 3)]) rfl sc_Net_init.nd (pi_list (pv 2)) (blkOk_by (own := [("one", 3)]) (N := N_Net_init) (sc := defScope s_Net_init) (by decide +kernel)) (fun _ _ _ _ _ => by exact (pg_name (i := 3) sc_Net_init.nd rfl (Or.inl rfl))) (fun _ _ _ _ _ => by exact pts_nil) (fun _ _ _ _ _ => by exact (C8.pe_c T_is_road hr (by decide) rfl (pa_cons (pv 3) (pa_cons (pv 1) pa_nil))))) pa_nil)))) (pss_one ps_never) pss_nil)
  (pss_cons (ps_fld (pv 0) (pe_callTy call_list_of (by rfl) T.b_list (by decide +kernel) (pa_cons (pv 1) pa_nil)) rfl)
  (pss_one (ps_fld (pv 0) (pe_callTy call_list_of (by rfl) T.b_list (by decide +kernel) (pa_cons (pv 2) pa_nil)) rfl))))), ?_⟩
    have lenl : las.length = N.lines.length := pl.length
    refine ⟨_, rfl, hs, N.names, rfl, SqL.of hh, hh, ok.nm, ok.nd, ok.few, fun H1 s1 => ⟨true, rfl, iteF ?_⟩⟩
    have hl1 := s1 _ _ hl
    refine (Ans.to (b' := false) (ans_or' (ans_not (ans_val (val_isiT (a := true) (val_var rfl) (.base (.lst hl1)) (by decide +kernel)))) fun _ => ans_test (v_gt (v_lenL (SqL.of hl1) (val_var rfl)) val_c)) (by
      rw [List.length_map, lenl]
      exact decide_eq_false (by have := ok.fl; omega))) _ (iteF ?_)
    -- all([is_road(one, houses) for one in roads])
    refine ⟨_, rfl, rs, rfl, ⟨_, SqL.of hl1⟩, fun D hD => lc_list (xs := las.map V.ref) (fun i H' => Same H1 H' ∧ H' D = some (.lst ((List.replicate i true).map V.bl))) ⟨Same.new hD, upd_same⟩ (fun _ _ _ h => SqL.of (h.1 _ _ hl1)) ?_ ?_⟩
    · rintro i x H2 hi ⟨s, d⟩
      obtain ⟨a, ha, rfl⟩ := map_of hi
      obtain ⟨l, hl2, hla⟩ := Paired.at_l pl ha
      refine ⟨rfl, ?_⟩
      refine ⟨_, rfl, _, rfl, a, hs, l, N.names, rfl, LnAt.mono (s1.trans s) hla, SqL.of ((s1.trans s) _ _ hh), ok.nm, ok.ln l (List.mem_of_getElem? hl2), fun H3 s3 => ?_⟩
      have li := lt_of_at hl2
      refine ⟨_, s3 _ _ d, sz_lt (by rw [List.length_map, List.length_replicate]; have := ok.fl; omega), (s.trans s3).mut hD, ?_⟩
      rw [upd_same, List.replicate_succ', List.map_append]
      rfl
    · rintro H2 ⟨s, d⟩
      refine ⟨D, _, rfl, SqL.of d, ?_⟩
      rw [all_true]
      refine ⟨true, rfl, iteF ?_⟩
      have s2 : Same H H2 := s1.trans s
      -- self.names = list(houses)
      refine ⟨_, rfl, hs, _, rfl, .inl (SqL.of (s2 _ _ hh)), fun l1 hl1' => ?_⟩
      have n1 : p ≠ l1 := ne_of_none (s2 _ _ hp) hl1'
      refine ⟨_, rfl, p, c.net, dx, [], rfl, (by rw [upd_ne n1]; exact s2 _ _ hp), T.cl_Net, T.n_Net_names, (by decide), ?_⟩
      -- self.lines = list(roads)
      have r1 : rs ≠ l1 := ne_of_none (s2 _ _ hl) hl1'
      have rp : rs ≠ p := ne_of hl hp (by intro z; cases z)
      rw [pi_Net_names]
      refine ⟨_, rfl, rs, _, rfl, .inl (SqL.of (by rw [upd_ne rp, upd_ne r1]; exact s2 _ _ hl)), fun l2 hl2' => ?_⟩
      have n2 : p ≠ l2 := fun z => by rw [← z, upd_same] at hl2'; cases hl2'
      have n12 : l1 ≠ l2 := fun z => by rw [← z, upd_ne n1.symm, upd_same] at hl2'; cases hl2'
      have hl2n : H2 l2 = none := by rw [upd_ne n2.symm, upd_ne n12.symm] at hl2'; exact hl2'
      refine ⟨_, rfl, p, c.net, dx, _, rfl, (by rw [upd_ne n2, upd_same]), T.cl_Net, T.n_Net_lines, (by show 1 < 1000; decide), ?_⟩
      rw [pi_Net_lines]
      have kp : ∀ b o, H b = some o → b ≠ p → (upd (upd (upd (upd H2 l1 (HO.lst (N.names.map V.str))) p (HO.ins c.net dx [(("names" : Str), V.ref l1)])) l2 (HO.lst (las.map V.ref))) p (HO.ins c.net dx (netF (.ref l1) (.ref l2)))) b = some o := fun b o e hb => by
        rw [upd_ne hb, upd_ne (ne_of_none (s2 _ _ e) hl2n), upd_ne hb, upd_ne (ne_of_none (s2 _ _ e) hl1')]
        exact s2 _ _ e
      refine k _ kp ⟨dx, l1, l2, upd_same, ?_, las, ?_, L2.Paired.mapP pl fun a l e => kp _ _ e (ne_of e hp (by intro z; cases z))⟩
      · rw [upd_ne n1.symm, upd_ne n12, upd_ne n1.symm, upd_same]
      · rw [upd_ne n2.symm, upd_same]
def spNHouses (c : Cs) : Sp := fun vs H Q _ => ∃ (p : Addr) (N : Nt), vs = [.ref p] ∧ NetAt c H p N ∧ ∀ H' l, Same H H' → H l = none → H' l = some (.lst (N.names.map V.str)) → Q (.ref l) H'
theorem ok_Net_houses (T : Txt K mg c) : C8.Met P w K mg base 1 c.net "houses" (spNHouses c) [] := by
  refine met_of T.cl_Net T.d_Net_houses sc_Net_houses (fun _ _ _ _ _ _ us hl => match us, hl with | [_], _ => rfl) (fun vs H Q E h => ?_) (fun f cdv A outer s H vs Q E hr h => ?_)
  · obtain ⟨p, N, rfl, _⟩ := h
    rfl
  · obtain ⟨p, N, rfl, ⟨dx, an, al, h1, h2, h3⟩, k⟩ := h
    have hu := hu_of hr
    refine ⟨_, (pss_one (ps_ret (pe_callTy call_list_of (by rfl) T.b_list (by decide +kernel) (pa_cons (pe_fld (pv 0) rfl) pa_nil)))), ?_⟩
    exact ⟨_, rfl, p, c.net, dx, _, _, rfl, h1, T.cl_Net, T.n_Net_names, lk_Net_names, an, _, rfl, .inl (SqL.of h2), fun l hl => k _ _ (Same.new hl) hl upd_same⟩
def spNRoad (c : Cs) : Sp := fun vs H Q _ => ∃ (p : Addr) (N : Nt) (n : Nat) (l : Ln), vs = [.ref p, nat n] ∧ NetAt c H p N ∧ N.lines[n]? = some l ∧ ∀ a, LnAt H a l → Q (.ref a) H
theorem ok_Net_road (T : Txt K mg c) : C8.Met P w K mg base 1 c.net "road" (spNRoad c) [] := by
  refine met_of T.cl_Net T.d_Net_road sc_Net_road (fun _ _ _ _ _ _ us hl => match us, hl with | [_, _], _ => rfl) (fun vs H Q E h => ?_) (fun f cdv A outer s H vs Q E hr h => ?_)
  · obtain ⟨p, N, n, l, rfl, _⟩ := h
    rfl
  · obtain ⟨p, N, n, l, rfl, ⟨dx, an, al, h1, h2, las, h3, h4⟩, hn, k⟩ := h
    have hu := hu_of hr
    refine ⟨_, (pss_cons (ps_if (pt_not (pt_chain op_le op_lt pe_int (pv 1) (pe_callB call_len_seq (by rfl) T.b_len PySem.boot_len (pa_cons (pe_fld (pv 0) rfl) pa_nil)))) (pss_one ps_never) pss_nil)
  (pss_one (ps_ret (pe_ix ix_list (pe_fld (pv 0) rfl) (pv 1) (fun _ _ => rfl))))), ?_⟩
    obtain ⟨a, ha, hla⟩ := Paired.at_r h4 hn
    have ln := lt_of_at ha
    have vf : Val (tFld K (tVar 0) "lines") [some (.ref p), some (nat n)] H (.ref al) := val_fld (val_var rfl) h1 T.cl_Net T.n_Net_lines lk_Net_lines
    refine sq_no (Ans.to (ans_not (ans_test (v_lelt (i := 0) (j := (n : Int)) val_c (val_var rfl) (v_lenL (SqL.of h3) vf)))) (by
      rw [List.length_map, decide_eq_true (Int.natCast_nonneg n), decide_eq_true (show (n : Int) < (las.length : Int) by omega)] <;> rfl)) ?_
    exact st_ret (v_ixL (i := (n : Int)) (SqL.of h3) vf (val_var rfl) (atI_nat (refs_at ha))) (k a hla)
def spNKnown (c : Cs) : Sp := fun vs H Q _ => ∃ (p : Addr) (N : Nt) (z : Str), vs = [.ref p, .str z] ∧ NetAt c H p N ∧ z ∈ N.names ∧ Q .non H
theorem ok_Net_known (T : Txt K mg c) : C8.Met P w K mg base 1 c.net "known" (spNKnown c) [] := by
  refine met_of T.cl_Net T.d_Net_known sc_Net_known (fun _ _ _ _ _ _ us hl => match us, hl with | [_, _], _ => rfl) (fun vs H Q E h => ?_) (fun f cdv A outer s H vs Q E hr h => ?_)
  · obtain ⟨p, N, z, rfl, _⟩ := h
    rfl
  · obtain ⟨p, N, z, rfl, ⟨dx, an, al, h1, h2, h3⟩, hz, k⟩ := h
    have hu := hu_of hr
    refine ⟨_, (pss_one (ps_if (pt_cmpR op_notIn_seq (pv 1) (pe_fld (pv 0) rfl) rfl) (pss_one ps_never) pss_nil)), ?_⟩
    exact st_no (Ans.to (ans_test (v_notIn (.inl (SqL.of h2)) (val_var rfl) (val_fld (val_var rfl) h1 T.cl_Net T.n_Net_names lk_Net_names) rfl (flat_str _))) (by rw [inV_str, decide_eq_true hz] <;> rfl)) k
/-- the roads out of a house -/
def outOf (ls : List Ln) (z : Str) (k : Nat) : List Nat := (List.range k).filter fun i => decide (ls[i]?.map (·.fr) = some z)
theorem outOf_len (ls : List Ln) (z : Str) (k : Nat) : (outOf ls z k).length ≤ k := by
  have := List.length_filter_le (fun i => decide (ls[i]?.map (·.fr) = some z)) (List.range k)
  rw [List.length_range] at this
  exact this
theorem outOf_succ {ls : List Ln} {z : Str} {k : Nat} {l : Ln} (h : ls[k]? = some l) : outOf ls z (k + 1) = if l.fr = z then outOf ls z k ++ [k] else outOf ls z k := by
  unfold outOf
  rw [List.range_succ, List.filter_append, List.filter_cons, h]
  by_cases e : l.fr = z
  · rw [if_pos e, if_pos (by simp [e])]
    rfl
  · rw [if_neg e, if_neg (by simp [e])]
    simp
theorem mem_outOf {ls : List Ln} {z : Str} {k n : Nat} : n ∈ outOf ls z k ↔ n < k ∧ ∃ l, ls[n]? = some l ∧ l.fr = z := by
  unfold outOf
  rw [List.mem_filter, List.mem_range]
  simp
def spNOut (c : Cs) : Sp := fun vs H Q _ => ∃ (p : Addr) (N : Nt) (z : Str), vs = [.ref p, .str z] ∧ NetAt c H p N ∧ z ∈ N.names ∧ N.lines.length ≤ 40 ∧ ∀ H' l, Same H H' → H l = none → H' l = some (.lst ((outOf N.lines z N.lines.length).map nat)) → Q (.ref l) H'
theorem ok_Net_out_of (T : Txt K mg c) : C8.Met P w K mg base 2 c.net "out_of" (spNOut c) [] := by
  refine met_of T.cl_Net T.d_Net_out_of sc_Net_out_of (fun _ _ _ _ _ _ us hl => match us, hl with | [_, _], _ => rfl) (fun vs H Q E h => ?_) (fun f cdv A outer s H vs Q E hr h => ?_)
  · obtain ⟨p, N, z, rfl, _⟩ := h
    rfl
  · obtain ⟨p, N, z, rfl, hN, hz, hfl, k⟩ := h
    have hu := hu_of hr
    have T_Net_known := ok_Net_known (P := P) (w := w) (base := base) T
    refine ⟨_, (pss_cons (ps_expr (C8.pe_mt T_Net_known hr (by decide) (pv 0) (pa_cons (pv 1) pa_nil)))
  (pss_one (ps_ret (pe_lc (own := [("number", 2), ("one", 3)]) rfl sc_Net_out_of.nd (pi_enum (by rfl) T.b_enumerate (pa_cons (pe_fld (pv 0) rfl) pa_nil)) (blkOk_by (own := [("number", 2), ("one", 3)]) (N := N_Net_out_of) (sc := defScope s_Net_out_of) (by decide +kernel)) (fun _ _ _ _ _ => by exact (pg_tupK (K := K) 2 rfl rfl (pgs_cons (pg_name (i := 2) sc_Net_out_of.nd rfl (Or.inl rfl)) (pgs_cons (pg_name (i := 3) sc_Net_out_of.nd rfl (Or.inl rfl)) pgs_nil)))) (fun _ _ _ _ _ => by exact (pts_one (pt_cmpR op_eq (pe_ix (ix_tupK (K := K) rfl) (pv 3) pe_int (fun _ _ => rfl)) (pv 1) (nomark _)))) (fun _ _ _ _ _ => by exact (pv 2)))))), ?_⟩
    obtain ⟨dx, an, al, h1, h2, las, h3, h4⟩ := id hN
    have lenl : las.length = N.lines.length := h4.length
    refine ⟨_, rfl, p, dx, _, rfl, h1, ln_Net_known, _, rfl, p, N, z, rfl, hN, hz, ?_⟩
    refine ⟨_, rfl, p, c.net, dx, _, _, rfl, h1, T.cl_Net, T.n_Net_lines, lk_Net_lines, al, _, rfl, SqL.of h3, fun D hD => lc_it walk_enum (fun i H' => Same H H' ∧ H' D = some (.lst ((outOf N.lines z i).map nat))) ⟨Same.new hD, upd_same⟩ (fun _ _ _ h => SqL.of (h.1 _ _ h3)) ?_ ?_⟩
    · rintro i x H2 H3 hi ⟨s, d⟩ ⟨U, x1, x2, rfl, hU, rfl, e1, e2⟩
      cases e1
      obtain ⟨a, ha, rfl⟩ := map_of e2
      obtain ⟨l, hl2, hla⟩ := Paired.at_l h4 ha
      have hUD : D ≠ U := ne_of_none d hU
      have s' : Same H (upd H2 U (.tup [.int (i : Int), .ref a])) := s.trans (Same.new hU)
      have li := lt_of_at hl2
      refine ⟨U, _, rfl, SqT.of upd_same, rfl, _, _, rfl, _, _, rfl, rfl, rfl, ?_⟩
      -- one[0] == house
      refine (ans_test (v_eq (v_ixTn (j := 0) (SqT.of (s' _ _ hla)) (val_var rfl) rfl) (val_var rfl) rfl)) _ ?_
      rw [outOf_succ hl2]
      by_cases e : l.fr = z
      · rw [decide_eq_true (congrArg V.str e), if_pos e]
        refine ⟨_, rfl, _, (by rw [upd_ne hUD]; exact d), sz_lt (by rw [List.length_map]; have := outOf_len N.lines z i; omega), s'.mut hD, ?_⟩
        rw [upd_same, List.map_append]
        rfl
      · rw [decide_eq_false (fun z' => e (V.str.inj z')), if_neg e]
        exact iteF ⟨s', by rw [upd_ne hUD]; exact d⟩
    · rintro H2 ⟨s, d⟩
      rw [List.length_map, lenl] at d
      exact k _ _ s hD d
/-! ### the spots -/
def spAH (c : Cs) : Sp := fun vs H Q _ => ∃ (p dx : Addr) (a b : V), vs = [.ref p, a, b] ∧ H p = some (.ins c.atHouse dx []) ∧ Q .non (upd H p (.ins c.atHouse dx (atHouseF a b)))
theorem ok_AtHouse_init (T : Txt K mg c) : C8.Mak P w K mg base 1 "AtHouse" c.atHouse (spAH c) [] := by
  refine mak_of T.m_AtHouse T.d_AtHouse_init sc_AtHouse_init (fun _ _ _ _ _ _ us hl => match us, hl with | [_, _, _], _ => rfl) (fun vs H Q E h => ?_) (fun f cdv A outer s H vs Q E hr h => ?_)
  · obtain ⟨p, dx, a, b, rfl, _⟩ := h
    rfl
  · obtain ⟨p, dx, a, b, rfl, hp, k⟩ := h
    have hu := hu_of hr
    refine ⟨_, (pss_cons (ps_fld (pv 0) (pv 1) rfl)
  (pss_one (ps_fld (pv 0) (pv 2) rfl))), ?_⟩
    refine ⟨_, rfl, _, rfl, p, c.atHouse, dx, [], rfl, hp, T.cl_AtHouse, T.n_AtHouse_at, (by decide), ?_⟩
    refine ⟨_, rfl, _, rfl, p, c.atHouse, dx, _, rfl, upd_same, T.cl_AtHouse, T.n_AtHouse_since, (by rw [pi_AtHouse_at]; show 1 < 1000; decide), ?_⟩
    rw [upd_upd, pi_AtHouse_at, pi_AtHouse_since]
    exact k
def spOR (c : Cs) : Sp := fun vs H Q _ => ∃ (p dx : Addr) (a b : V), vs = [.ref p, a, b] ∧ H p = some (.ins c.onRoad dx []) ∧ Q .non (upd H p (.ins c.onRoad dx (onRoadF a b)))
theorem ok_OnRoad_init (T : Txt K mg c) : C8.Mak P w K mg base 1 "OnRoad" c.onRoad (spOR c) [] := by
  refine mak_of T.m_OnRoad T.d_OnRoad_init sc_OnRoad_init (fun _ _ _ _ _ _ us hl => match us, hl with | [_, _, _], _ => rfl) (fun vs H Q E h => ?_) (fun f cdv A outer s H vs Q E hr h => ?_)
  · obtain ⟨p, dx, a, b, rfl, _⟩ := h
    rfl
  · obtain ⟨p, dx, a, b, rfl, hp, k⟩ := h
    have hu := hu_of hr
    refine ⟨_, (pss_cons (ps_fld (pv 0) (pv 1) rfl)
  (pss_one (ps_fld (pv 0) (pv 2) rfl))), ?_⟩
    refine ⟨_, rfl, _, rfl, p, c.onRoad, dx, [], rfl, hp, T.cl_OnRoad, T.n_OnRoad_by, (by decide), ?_⟩
    refine ⟨_, rfl, _, rfl, p, c.onRoad, dx, _, rfl, upd_same, T.cl_OnRoad, T.n_OnRoad_due, (by rw [pi_OnRoad_by]; show 1 < 1000; decide), ?_⟩
    rw [upd_upd, pi_OnRoad_by, pi_OnRoad_due]
    exact k
def spHM (c : Cs) : Sp := fun vs H Q _ => ∃ (p dx : Addr) (a : V), vs = [.ref p, a] ∧ H p = some (.ins c.atHome dx []) ∧ Q .non (upd H p (.ins c.atHome dx (atHomeF a)))
theorem ok_AtHome_init (T : Txt K mg c) : C8.Mak P w K mg base 1 "AtHome" c.atHome (spHM c) [] := by
  refine mak_of T.m_AtHome T.d_AtHome_init sc_AtHome_init (fun _ _ _ _ _ _ us hl => match us, hl with | [_, _], _ => rfl) (fun vs H Q E h => ?_) (fun f cdv A outer s H vs Q E hr h => ?_)
  · obtain ⟨p, dx, a, rfl, _⟩ := h
    rfl
  · obtain ⟨p, dx, a, rfl, hp, k⟩ := h
    have hu := hu_of hr
    refine ⟨_, (pss_one (ps_fld (pv 0) (pv 1) rfl)), ?_⟩
    refine ⟨_, rfl, _, rfl, p, c.atHome, dx, [], rfl, hp, T.cl_AtHome, T.n_AtHome_since, (by decide), ?_⟩
    rw [pi_AtHome_since]
    exact k
/-! ### later -/
def laterM (N : Nt) (lt : Lt) (sp : Spt) (t : Int) : Spt := match sp with
  | .ny => if lt.tn ≤ t then .ah lt.hs lt.tn else .ny
  | .rd r due => if due ≤ t then (match N.lines[r]? with
    | some l => if l.to = lt.gl then .hm due else .ah l.to due
    | none => .rd r due) else .rd r due
  | .ah h s => .ah h s
  | .hm s => .hm s
def spLater (c : Cs) : Sp := fun vs H Q _ => ∃ (p : Addr) (N : Nt) (q : Addr) (lt : Lt) (a : Addr) (sp : Spt) (t : Int), vs = [.ref p, .ref q, .ref a, .int t] ∧ NetAt c H p N ∧ LtAt H q lt ∧ SptAt c H a sp ∧ (∀ r due, sp = .rd r due → ∃ l, N.lines[r]? = some l) ∧
  ∀ a' H', Same H H' → SptAt c H' a' (laterM N lt sp t) → (a' = a ∨ H a' = none) → Q (.ref a') H'
/-- an instance is made: it is new -/
theorem made_same {H : Hp} {x dx : Addr} {C : Addr} (hx : H x = none) (hdx : H dx = none) {o : HO} {u : HO} : Same H (upd (upd (upd H dx (.own x)) x u) x o) := fun b v e => by
  rw [upd_ne (ne_of_none e hx), upd_ne (ne_of_none e hx), upd_ne (ne_of_none e hdx)]
  exact e
theorem ok_later (T : Txt K mg c) : C8.Cal P w K mg base 3 "later" (spLater c) [] := by
  refine cal_of T.d_later sc_later (fun _ _ _ _ _ _ us hl => match us, hl with | [_, _, _, _], _ => rfl) (fun vs H Q E h => ?_) (fun f cdv A outer s H vs Q E hr h => ?_)
  · obtain ⟨p, N, q, lt, a, sp, t, rfl, _⟩ := h
    rfl
  · obtain ⟨p, N, q, lt, a, sp, t, rfl, hN, hq, ha, hr2, k⟩ := h
    have hu := hu_of hr
    have T_AtHouse := ok_AtHouse_init (P := P) (w := w) (base := base) T
    have T_AtHome := ok_AtHome_init (P := P) (w := w) (base := base) T
    have T_Net_road := ok_Net_road (P := P) (w := w) (base := base) T
    refine ⟨_, (pss_cons (ps_if (PW.pt (pw_and (pt_val (pe_callB call_isi (by rfl) T.b_isinstance (by decide +kernel) (pa_cons (pv 2) (pa_cons (C8.pe_gc rfl T.c_NotYet) pa_nil)))) (pw_and1 (pt_cmpR op_le (pe_ix ix_tup (pv 1) pe_int (fun _ _ => rfl)) (pv 3) (nomark _))))) (pss_one (ps_ret (C8.pe_mk T_AtHouse hr (by decide) rfl (pa_cons (pe_ix ix_tup (pv 1) pe_int (fun _ _ => rfl)) (pa_cons (pe_ix ix_tup (pv 1) pe_int (fun _ _ => rfl)) pa_nil))))) pss_nil)
  (pss_cons (ps_if (PW.pt (pw_and (pt_val (pe_callB call_isi (by rfl) T.b_isinstance (by decide +kernel) (pa_cons (pv 2) (pa_cons (C8.pe_gc rfl T.c_OnRoad) pa_nil)))) (pw_and1 (pt_cmpR op_le (pe_fld (pv 2) rfl) (pv 3) (nomark _))))) (pss_cons (ps_set (i := 4) sc_later.nd rfl (Or.inl rfl) (pe_ix ix_tup (C8.pe_mt T_Net_road hr (by decide) (pv 0) (pa_cons (pe_fld (pv 2) rfl) pa_nil)) pe_int (fun _ _ => rfl)))
  (pss_cons (ps_if (pt_cmpR op_eq (pv 4) (pe_ix ix_tup (pv 1) pe_int (fun _ _ => rfl)) (nomark _)) (pss_one (ps_ret (C8.pe_mk T_AtHome hr (by decide) rfl (pa_cons (pe_fld (pv 2) rfl) pa_nil)))) pss_nil)
  (pss_one (ps_ret (C8.pe_mk T_AtHouse hr (by decide) rfl (pa_cons (pv 4) (pa_cons (pe_fld (pv 2) rfl) pa_nil))))))) pss_nil)
  (pss_one (ps_ret (pv 2))))), ?_⟩
    have hT : SqT K H q (ltV lt) := SqT.of hq
    have mkAH : ∀ (hz : Str) (s : Int), laterM N lt sp t = .ah hz s → ∀ x dx, H x = none → H dx = none → dx ≠ x → spAH c [.ref x, .str hz, .int s] (upd (upd H dx (.own x)) x (.ins c.atHouse dx [])) (fun v H2 => v = .non ∧ Q (.ref x) H2) C8.E0 := fun hz s e x dx hx hdx ne =>
      ⟨x, dx, _, _, rfl, upd_same, rfl, k x _ (made_same (C := c.atHouse) hx hdx) (by rw [e]; exact ⟨dx, upd_same⟩) (.inr hx)⟩
    cases sp with
    | ny =>
      by_cases h : lt.tn ≤ t
      · refine sq_seq (st_yes (Ans.to (ans_and' (ans_val (val_isiK T .ny ha (val_var rfl))) fun _ => ans_test (v_le (i := lt.tn) (j := t) (v_ixTn (j := 1) hT (val_var rfl) rfl) (val_var rfl))) (by rw [decide_eq_true h] <;> rfl)) ?_)
        refine (v_ixTn (j := 0) hT (val_var rfl) rfl : Val _ _ H (.str lt.hs)) _ ?_
        refine (v_ixTn (j := 1) hT (val_var rfl) rfl : Val _ _ H (.int lt.tn)) _ ?_
        exact mkAH lt.hs lt.tn (by show (if lt.tn ≤ t then _ else _) = _; rw [if_pos h])
      · refine sq_no (Ans.to (ans_and' (ans_val (val_isiK T .ny ha (val_var rfl))) fun _ => ans_test (v_le (i := lt.tn) (j := t) (v_ixTn (j := 1) hT (val_var rfl) rfl) (val_var rfl))) (by rw [decide_eq_false h] <;> rfl)) ?_
        refine sq_no (ans_and0 (ans_val (val_isiK T .rd ha (val_var rfl)))) ?_
        exact st_ret (val_var rfl) (k a H (Same.refl _) (by show SptAt c H a (if lt.tn ≤ t then _ else _); rw [if_neg h]; exact ha) (.inl rfl))
    | ah hz s =>
      refine sq_no (ans_and0 (ans_val (val_isiK T .ny ha (val_var rfl)))) ?_
      refine sq_no (ans_and0 (ans_val (val_isiK T .rd ha (val_var rfl)))) ?_
      exact st_ret (val_var rfl) (k a H (Same.refl _) ha (.inl rfl))
    | hm s =>
      refine sq_no (ans_and0 (ans_val (val_isiK T .ny ha (val_var rfl)))) ?_
      refine sq_no (ans_and0 (ans_val (val_isiK T .rd ha (val_var rfl)))) ?_
      exact st_ret (val_var rfl) (k a H (Same.refl _) ha (.inl rfl))
    | rd r due =>
      obtain ⟨l, hl⟩ := hr2 r due rfl
      obtain ⟨dxs, hs⟩ := id ha
      have vby : ∀ σ : L2.St, σ[2]? = some (some (.ref a)) → Val (tFld K (tVar 2) "by") σ H (nat r) := fun σ e => val_fld (val_var e) hs T.cl_OnRoad T.n_OnRoad_by lk_OnRoad_by
      have vdue : ∀ σ : L2.St, σ[2]? = some (some (.ref a)) → Val (tFld K (tVar 2) "due") σ H (.int due) := fun σ e => val_fld (val_var e) hs T.cl_OnRoad T.n_OnRoad_due lk_OnRoad_due
      refine sq_no (ans_and0 (ans_val (val_isiK T .ny ha (val_var rfl)))) ?_
      by_cases h : due ≤ t
      · refine sq_seq (st_yes (Ans.to (ans_and' (ans_val (val_isiK T .rd ha (val_var rfl))) fun _ => ans_test (v_le (i := due) (j := t) (vdue _ rfl) (val_var rfl))) (by rw [decide_eq_true h] <;> rfl)) ?_)
        obtain ⟨dx, an, al, h1, h2, h3⟩ := id hN
        -- house = net.road(spot.by)[1]
        refine ⟨_, rfl, p, dx, _, rfl, h1, ln_Net_road, ?_⟩
        refine vby _ rfl _ ?_
        refine ⟨p, N, r, l, rfl, hN, hl, fun la hla => ?_⟩
        refine ⟨la, _, 1, .str l.to, rfl, rfl, SqT.of hla, rfl, ?_⟩
        by_cases e : l.to = lt.gl
        · refine sq_seq (st_yes (Ans.to (ans_test (v_eq (val_var rfl) (v_ixTn (j := 2) hT (val_var rfl) rfl) rfl)) (by rw [decide_eq_true (congrArg V.str e)])) ?_)
          refine vdue _ rfl _ ?_
          intro x dx hx hdx ne
          refine ⟨x, dx, _, rfl, upd_same, rfl, k x _ (made_same (C := c.atHome) hx hdx) ?_ (.inr hx)⟩
          show SptAt c _ x (if due ≤ t then (match N.lines[r]? with | some l => if l.to = lt.gl then Spt.hm due else .ah l.to due | none => .rd r due) else .rd r due)
          rw [if_pos h, hl]
          show SptAt c _ x (if l.to = lt.gl then Spt.hm due else .ah l.to due)
          rw [if_pos e]
          exact ⟨dx, upd_same⟩
        · refine sq_no (Ans.to (ans_test (v_eq (val_var rfl) (v_ixTn (j := 2) hT (val_var rfl) rfl) rfl)) (by rw [decide_eq_false (fun z => e (V.str.inj z))])) ?_
          refine ⟨_, rfl, ?_⟩
          refine vdue _ rfl _ ?_
          refine mkAH l.to due ?_
          show (if due ≤ t then (match N.lines[r]? with | some l => if l.to = lt.gl then Spt.hm due else .ah l.to due | none => .rd r due) else .rd r due) = _
          rw [if_pos h, hl]
          show (if l.to = lt.gl then Spt.hm due else .ah l.to due) = _
          rw [if_neg e]
      · refine sq_no (Ans.to (ans_and' (ans_val (val_isiK T .rd ha (val_var rfl))) fun _ => ans_test (v_le (i := due) (j := t) (vdue _ rfl) (val_var rfl))) (by rw [decide_eq_false h] <;> rfl)) ?_
        exact st_ret (val_var rfl) (k a H (Same.refl _) (by show SptAt c H a (if due ≤ t then _ else _); rw [if_neg h]; exact ha) (.inl rfl))
end
end PR
set_option Elab.async false
set_option maxRecDepth 100000
set_option linter.all false
set_option maxHeartbeats 1000000
/-! Letters of a net; how far it is; the tables of ways. -/
namespace PR
open PySem PySem.Spec PyProof.Rows L2
structure LtOk (N : Nt) (t : Lt) : Prop where
  hs : t.hs ∈ N.names
  gl : t.gl ∈ N.names
  ne : t.hs ≠ t.gl
  tn : 0 ≤ t.tn ∧ t.tn ≤ 1000000000
theorem dp_ints {K : PySem.W.Frag} {H : Hp} : ∀ ns : List Int, DpAll K H (ns.map V.int) (ns.map PyData.int)
  | [] => .nil
  | n :: r => .cons (.int n) (dp_ints r)
theorem lay_all {n : Nat} : ∀ {ds : List PyData}, (∀ d ∈ ds, d.canLay0 = true ∧ d.depth ≤ n) → PyData.canLayAll0 ds = true ∧ PyData.depthAll ds ≤ n
  | [], _ => ⟨by simp [PyData.canLayAll0], by simp [PyData.depthAll]⟩
  | d :: r, h => by
    obtain ⟨h1, h2⟩ := h d List.mem_cons_self
    obtain ⟨h3, h4⟩ := lay_all (ds := r) fun e he => h e (List.mem_cons_of_mem _ he)
    refine ⟨by simp [PyData.canLayAll0, h1, h3], ?_⟩
    simp only [PyData.depthAll]
    exact Nat.max_le.mpr ⟨h2, h4⟩
theorem lay_list {n : Nat} {ds : List PyData} (h : ∀ d ∈ ds, d.canLay0 = true ∧ d.depth ≤ n) : (PyData.list ds).canLay0 = true ∧ (PyData.list ds).depth ≤ n + 1 := by
  obtain ⟨h1, h2⟩ := lay_all h
  exact ⟨by simp only [PyData.canLay0]; exact h1, by simp only [PyData.depth]; omega⟩
theorem lay_tuple {n : Nat} {ds : List PyData} (h : ∀ d ∈ ds, d.canLay0 = true ∧ d.depth ≤ n) : (PyData.tuple ds).canLay0 = true ∧ (PyData.tuple ds).depth ≤ n + 1 := by
  obtain ⟨h1, h2⟩ := lay_all h
  exact ⟨by simp only [PyData.canLay0]; exact h1, by simp only [PyData.depth]; omega⟩
theorem shaped_of {n : Nat} {d : PyData} (h : d.canLay0 = true ∧ d.depth ≤ n) (hn : n ≤ 64) : SeqAt.shaped d = true := by
  unfold SeqAt.shaped
  rw [h.1, decide_eq_true (Nat.le_trans h.2 hn)] <;> rfl
theorem lay_ints (ns : List Int) : (PyData.list (ns.map PyData.int)).canLay0 = true ∧ (PyData.list (ns.map PyData.int)).depth ≤ 1 := lay_list fun d hd => by
  obtain ⟨n, _, rfl⟩ := List.mem_map.mp hd
  exact ⟨by simp [PyData.canLay0], by simp [PyData.depth]⟩
theorem lay_nil : (PyData.list []).canLay0 = true ∧ (PyData.list []).depth ≤ 1 := lay_list (n := 0) fun d hd => nomatch hd
theorem take_snoc {α : Type} : ∀ {l : List α} {i : Nat} {x : α}, l[i]? = some x → l.take (i + 1) = l.take i ++ [x]
  | [], i, x, h => by simp at h
  | a :: l, 0, x, h => by
    have e : a = x := Option.some.inj h
    subst e
    rfl
  | a :: l, i + 1, x, h => by
    have ih := take_snoc (l := l) (i := i) (x := x) h
    show a :: l.take (i + 1) = a :: l.take i ++ [x]
    rw [ih]
    rfl
mutual
theorem _root_.L2.Dp.mono {K : PySem.W.Frag} {H H' : Hp} (s : Same H H') : ∀ {v : V} {d : PyData}, Dp K H v d → Dp K H' v d
  | _, _, .non => .non
  | _, _, .bl b => .bl b
  | _, _, .int i => .int i
  | _, _, .str x => .str x
  | _, _, .lst h a => .lst (s.seq h) (dp_all_mono s a)
  | _, _, .tup h a => .tup (s.seqT h) (dp_all_mono s a)
theorem dp_all_mono {K : PySem.W.Frag} {H H' : Hp} (s : Same H H') : ∀ {v : List V} {d : List PyData}, DpAll K H v d → DpAll K H' v d
  | _, _, .nil => .nil
  | _, _, .cons h a => .cons (L2.Dp.mono s h) (dp_all_mono s a)
end
section
variable {P : Program} {w : World} {K : PySem.W.Frag} {mg : Str → Option Value} {base : Heap} {c : Cs}
/-! ### letters -/
def spIsLetter (c : Cs) : Sp := fun vs H Q _ => ∃ (p : Addr) (N : Nt) (q : Addr) (t : Lt), vs = [.ref p, .ref q] ∧ NetAt c H p N ∧ LtAt H q t ∧ LtOk N t ∧ ∀ H', Same H H' → Q (.bl true) H'
theorem ok_is_letter (T : Txt K mg c) : C8.Cal P w K mg base 2 "is_letter" (spIsLetter c) [] := by
  refine cal_of T.d_is_letter sc_is_letter (fun _ _ _ _ _ _ us hl => match us, hl with | [_, _], _ => rfl) (fun vs H Q E h => ?_) (fun f cdv A outer s H vs Q E hr h => ?_)
  · obtain ⟨p, N, q, t, rfl, _⟩ := h
    rfl
  · obtain ⟨p, N, q, t, rfl, hN, hq, ok, k⟩ := h
    have hu := hu_of hr
    have T_Net_houses := ok_Net_houses (P := P) (w := w) (base := base) T
    have T_is_whole := ok_is_whole (P := P) (w := w) (base := base) T
    refine ⟨_, (pss_cons (ps_if (PW.pt (pw_or (pt_not (pt_val (pe_callB call_isi (by rfl) T.b_isinstance (by decide +kernel) (pa_cons (pv 1) (pa_cons (pe_bty (n := "tuple") rfl T.b_tuple (by decide +kernel)) pa_nil))))) (pw_or1 (pt_cmpR op_ne (pe_callB call_len_seq (by rfl) T.b_len PySem.boot_len (pa_cons (pv 1) pa_nil)) pe_int (nomark _))))) (pss_one (ps_ret pe_bl)) pss_nil)
  (pss_cons (ps_set (i := 2) sc_is_letter.nd rfl (Or.inl rfl) (C8.pe_mt0 T_Net_houses hr (by decide) (pv 0)))
  (pss_cons (ps_if (PW.pt (pw_or (pt_cmpR op_notIn_seq (pe_ix ix_tup (pv 1) pe_int (fun _ _ => rfl)) (pv 2) rfl) (pw_or (pt_cmpR op_notIn_seq (pe_ix ix_tup (pv 1) pe_int (fun _ _ => rfl)) (pv 2) rfl) (pw_or1 (pt_cmpR op_eq (pe_ix ix_tup (pv 1) pe_int (fun _ _ => rfl)) (pe_ix ix_tup (pv 1) pe_int (fun _ _ => rfl)) (nomark _)))))) (pss_one (ps_ret pe_bl)) pss_nil)
  (pss_one (ps_ret (C8.pe_c T_is_whole hr (by decide) rfl (pa_cons (pe_ix ix_tup (pv 1) pe_int (fun _ _ => rfl)) (pa_cons pe_int (pa_cons (C8.pe_gc rfl T.g_LATEST) pa_nil))))))))), ?_⟩
    have hT : SqT K H q (ltV t) := SqT.of hq
    refine sq_no (Ans.to (ans_or' (ans_not (ans_val (val_isiT (a := true) (val_var rfl) (.base (.tup hq)) (by decide +kernel)))) fun _ => ans_test (v_ne (v_lenT hT (val_var rfl)) val_c rfl)) rfl) ?_
    obtain ⟨dx, an, al, h1, h2, h3⟩ := id hN
    refine ⟨_, rfl, p, dx, _, rfl, h1, ln_Net_houses, p, N, rfl, hN, fun H1 l s1 hl e1 => ?_⟩
    have hT1 : SqT K H1 q (ltV t) := s1.seqT hT
    have v0 : ∀ σ : L2.St, σ[1]? = some (some (.ref q)) → Val (tOp (rIxT K) (tVar 1) (tC (.int 0))) σ H1 (.str t.hs) := fun σ e => v_ixTn (j := 0) hT1 (val_var e) rfl
    have v2 : ∀ σ : L2.St, σ[1]? = some (some (.ref q)) → Val (tOp (rIxT K) (tVar 1) (tC (.int 2))) σ H1 (.str t.gl) := fun σ e => v_ixTn (j := 2) hT1 (val_var e) rfl
    refine sq_no (Ans.to (ans_or' (ans_test (v_notIn (.inl (SqL.of e1)) (v0 _ rfl) (val_var rfl) rfl (flat_str _))) fun _ => ans_or' (ans_test (v_notIn (.inl (SqL.of e1)) (v2 _ rfl) (val_var rfl) rfl (flat_str _))) fun _ => ans_test (v_eq (v0 _ rfl) (v2 _ rfl) rfl)) (by
      rw [inV_str, inV_str, decide_eq_true ok.hs, decide_eq_true ok.gl, decide_eq_false (fun e => ok.ne (V.str.inj e))] <;> rfl)) ?_
    refine st_ret (v := .bl true) (v_call3 (v_ixTn (j := 1) hT1 (val_var rfl) rfl) val_c val_c fun Q' q' => ⟨t.tn, 0, 1000000000, rfl, by rw [decide_eq_true ok.tn.1, decide_eq_true ok.tn.2]; exact q'⟩) (k H1 s1)
def spLettersOf (c : Cs) : Sp := fun vs H Q _ => ∃ (p : Addr) (N : Nt) (q : Addr) (as : List Addr) (ts : List Lt), vs = [.ref p, .ref q] ∧ NetAt c H p N ∧ H q = some (.lst (as.map V.ref)) ∧ Paired (LtAt H) as ts ∧ (∀ t ∈ ts, LtOk N t) ∧ ts.length ≤ 40 ∧ ts ≠ [] ∧
  (∀ t ∈ ts, ∀ u ∈ ts, t.tn - u.tn ≤ 30) ∧ ∀ H' l, Same H H' → H l = none → H' l = some (.lst (as.map V.ref)) → Q (.ref l) H'
theorem ok_letters_of (T : Txt K mg c) : C8.Cal P w K mg base 3 "letters_of" (spLettersOf c) [] := by
  refine cal_of T.d_letters_of sc_letters_of (fun _ _ _ _ _ _ us hl => match us, hl with | [_, _], _ => rfl) (fun vs H Q E h => ?_) (fun f cdv A outer s H vs Q E hr h => ?_)
  · obtain ⟨p, N, q, as, ts, rfl, _⟩ := h
    rfl
  · obtain ⟨p, N, q, as, ts, rfl, hN, hq, hp, ok, few, hne, span, k⟩ := h
    have hu := hu_of hr
    have T_is_letter := ok_is_letter (P := P) (w := w) (base := base) T
    refine ⟨_, (pss_cons (ps_for PassesOwn.never rfl (pi_enum (by rfl) T.b_enumerate (pa_cons (pv 1) pa_nil)) (pg_tup rfl (pgs_cons (pg_name (i := 2) sc_letters_of.nd rfl (Or.inl rfl)) (pgs_cons (pg_name (i := 3) sc_letters_of.nd rfl (Or.inl rfl)) pgs_nil))) (pss_one (ps_if (pt_not (pt_val (C8.pe_c T_is_letter hr (by decide) rfl (pa_cons (pv 0) (pa_cons (pv 3) pa_nil))))) (pss_one ps_never) pss_nil)))
  (pss_cons (ps_setLc (i := 4) (own := [("one", 5)]) rfl sc_letters_of.nd rfl rfl (sw_true rfl rfl rfl (by decide +kernel)) (pi_list (pv 1)) (blkOk_by (own := [("one", 5)]) (N := N_letters_of) (sc := defScope s_letters_of) (by decide +kernel)) (fun _ _ _ _ _ => by exact (pg_name (i := 5) sc_letters_of.nd rfl (Or.inl rfl))) (fun _ _ _ _ _ => by exact pts_nil) (fun _ _ _ _ _ => by exact (pe_ix (ix_tupK (K := K) rfl) (pv 5) pe_int (fun _ _ => rfl))))
  (pss_cons (ps_if (PW.pt (pw_or (pt_cmpR op_gt (pe_callB call_len_seq (by rfl) T.b_len PySem.boot_len (pa_cons (pv 1) pa_nil)) (C8.pe_gc rfl T.g_MOST_LETTERS) (nomark _)) (pw_or1 (PW.pt (pw_and (pt_cmpR (op_neD hr.units) (pv 4) (pe_lst pa_nil) (nomark _)) (pw_and1 (pt_cmpR op_gt (pe_op op_sub (pe_callB (cr_max rfl) (by rfl) T.b_max (by decide +kernel) (pa_cons (pv 4) pa_nil)) (pe_callB (cr_min rfl) (by rfl) T.b_min (by decide +kernel) (pa_cons (pv 4) pa_nil))) (C8.pe_gc rfl T.g_WIDEST_SPAN) (nomark _)))))))) (pss_one ps_never) pss_nil)
  (pss_one (ps_ret (pe_callTy call_list_of (by rfl) T.b_list (by decide +kernel) (pa_cons (pv 1) pa_nil))))))), ?_⟩
    have lena : as.length = ts.length := hp.length
    -- for number, thing in enumerate(some)
    refine ⟨_, rfl, q, _, rfl, SqL.of hq, for_it walk_enum (fun i σ H' => ∃ o1 o2, σ = [some (.ref p), some (.ref q), o1, o2, none, none] ∧ Same H H') ⟨_, _, rfl, Same.refl _⟩ (fun i σ H' _ ⟨_, _, _, s⟩ => SqL.of (s _ _ hq)) ?_ ?_⟩
    · rintro i x σ H1 H2 hi ⟨o1, o2, rfl, s⟩ ⟨U, x1, x2, rfl, hU, rfl, e1, e2⟩
      cases e1
      obtain ⟨a, ha, rfl⟩ := map_of e2
      obtain ⟨t, ht, hta⟩ := Paired.at_l hp ha
      have s' := s.trans (Same.new (o := .tup [.int (i : Int), .ref a]) hU)
      refine ⟨U, _, rfl, SqT.of upd_same, rfl, _, _, rfl, _, _, rfl, rfl, ?_⟩
      refine ⟨_, rfl, _, rfl, p, N, a, t, rfl, hN.mono s', hta.mono s', ok t (List.mem_of_getElem? ht), fun H3 s3 => ⟨true, rfl, iteF ?_⟩⟩
      exact ⟨_, _, rfl, s'.trans s3⟩
    · rintro σ H1 ⟨o1, o2, rfl, s⟩
      -- turns = [one[1] for one in some]
      refine ⟨_, rfl, q, rfl, ⟨_, SqL.of (s _ _ hq)⟩, fun D hD => lc_list (xs := as.map V.ref) (fun i H' => Same H1 H' ∧ H' D = some (.lst (((ts.take i).map (·.tn)).map V.int))) ⟨Same.new hD, upd_same⟩ (fun _ _ _ h => SqL.of (h.1 _ _ (s _ _ hq))) ?_ ?_⟩
      · rintro i x H2 hi ⟨s2, d⟩
        obtain ⟨a, ha, rfl⟩ := map_of hi
        obtain ⟨t, ht, hta⟩ := Paired.at_l hp ha
        refine ⟨rfl, ?_⟩
        refine (v_ixTn (j := 1) (SqT.of ((s.trans s2) _ _ hta)) (val_var rfl) rfl : Val _ _ H2 (.int t.tn)) _ ?_
        refine ⟨_, d, sz_lt (by rw [List.length_map, List.length_map, List.length_take]; omega), s2.mut hD, ?_⟩
        rw [upd_same, take_snoc ht, List.map_append, List.map_append]
        rfl
      · rintro H2 ⟨s2, d⟩
        rw [List.length_map, lena, List.take_length] at d
        have s12 := s.trans s2
        have hq2 := s12 _ _ hq
        generalize hn : ts.map (·.tn) = ns at d
        have nne : ns ≠ [] := fun z => hne (List.map_eq_nil_iff.mp (hn.trans z))
        have dn : Dp K H2 (.ref D) (.list (ns.map PyData.int)) := .lst (SqL.of d) (dp_ints ns)
        -- if len(some) > 40 or turns != [] and max(turns) - min(turns) > 30
        refine (Ans.to (b' := false) (ans_test (v_gt (v_lenL (SqL.of hq2) (val_var rfl)) val_c)) (by rw [List.length_map, lena]; exact decide_eq_false (by omega))) _ (iteF ?_)
        refine ⟨_, rfl, Nat.zero_le _, fun l0 hl0 => ⟨_, .list [], dn.mono (Same.new hl0), .lst (SqL.of upd_same) .nil, shaped_of (lay_ints ns) (by decide), shaped_of lay_nil (by decide), _, rfl, ?_⟩⟩
        have e : PyData.eqv (.list (ns.map PyData.int)) (.list []) = false := by
          cases ns with
          | nil => exact absurd rfl nne
          | cons a r => rfl
        rw [e]
        refine iteT ?_
        have npos : 0 < ns.length := List.length_pos_iff.mpr nne
        have dD : (upd H2 l0 (.lst [])) D = some (.lst (ns.map V.int)) := Same.new hl0 _ _ d
        refine ⟨_, rfl, D, ns, rfl, SqL.of dD, npos, fun mx hmx hmx' => ?_⟩
        refine ⟨_, rfl, D, ns, rfl, SqL.of dD, npos, fun mn hmn hmn' => ?_⟩
        refine ⟨mx, mn, rfl, rfl, _, 30, rfl, rfl, _, rfl, ?_⟩
        have le30 : mx - mn ≤ 30 := by
          rw [← hn] at hmx hmn
          obtain ⟨t, ht, rfl⟩ := List.mem_map.mp hmx
          obtain ⟨u, hu', rfl⟩ := List.mem_map.mp hmn
          exact span t ht u hu'
        rw [decide_eq_false (show ¬ 30 < mx - mn by omega)]
        refine iteF ?_
        -- return list(some)
        have s3 := s12.trans (Same.new (o := .lst []) hl0)
        refine ⟨_, rfl, q, _, rfl, .inl (SqL.of (s3 _ _ hq)), fun l hl => k _ l (s3.trans (Same.new hl)) (s3.free hl) upd_same⟩
end
end PR
set_option Elab.async false
set_option maxRecDepth 100000
set_option linter.all false
set_option maxHeartbeats 1000000
/-! How far it is (fars); the tables of ways. -/
namespace PR
open PySem PySem.Spec PyProof.Rows L2
/-! ### the numbers told -/
def Rep (kvs : List (Key × V)) (f : Str → Option Int) : Prop := ∀ z, valV kvs (Sum.inr z : Key) = (f z).map V.int
def putf (f : Str → Option Int) (z : Str) (n : Int) : Str → Option Int := fun y => if y = z then some n else f y
theorem putf_same {f : Str → Option Int} {z : Str} {n : Int} : putf f z n z = some n := if_pos rfl
theorem putf_ne {f : Str → Option Int} {z y : Str} {n : Int} (h : y ≠ z) : putf f z n y = f y := if_neg h
theorem Rep.put {kvs : List (Key × V)} {f : Str → Option Int} (r : Rep kvs f) (z : Str) (n : Int) : Rep (putK kvs (Sum.inr z : Key) (.int n)) (putf f z n) := fun y => by
  rw [valV_put]
  by_cases h : y = z
  · subst h
    rw [if_pos rfl, putf_same]
    rfl
  · rw [if_neg (fun e => h (Sum.inr.inj e)), putf_ne h]
    exact r y
def msr (f : Str → Option Int) : List Str → Nat
  | [] => 0
  | z :: r => (match f z with | some n => n.toNat | none => 1000) + msr f r
def cnt (f : Str → Option Int) : List Str → Nat
  | [] => 0
  | z :: r => (match f z with | some _ => 1 | none => 0) + cnt f r
theorem cnt_le (f : Str → Option Int) : ∀ l, cnt f l ≤ l.length
  | [] => Nat.le_refl _
  | z :: r => by
    have ih := cnt_le f r
    show (match f z with | some _ => 1 | none => 0) + cnt f r ≤ r.length + 1
    cases f z with
    | none => simp only; omega
    | some _ => simp only; omega
theorem cnt_put {f : Str → Option Int} {z : Str} {n : Int} : ∀ l, cnt f l ≤ cnt (putf f z n) l ∧ (f z = none → z ∈ l → cnt f l + 1 ≤ cnt (putf f z n) l)
  | [] => ⟨Nat.le_refl _, fun _ h => nomatch h⟩
  | y :: r => by
    obtain ⟨i1, i2⟩ := cnt_put (f := f) (z := z) (n := n) r
    show (match f y with | some _ => 1 | none => 0) + cnt f r ≤ (match putf f z n y with | some _ => 1 | none => 0) + cnt (putf f z n) r ∧ (f z = none → z ∈ y :: r → (match f y with | some _ => 1 | none => 0) + cnt f r + 1 ≤ (match putf f z n y with | some _ => 1 | none => 0) + cnt (putf f z n) r)
    by_cases h : y = z
    · subst h
      rw [putf_same]
      cases e : f y with
      | none => simp only; exact ⟨by omega, fun _ _ => by omega⟩
      | some m => simp only; exact ⟨by omega, fun q => nomatch q⟩
    · rw [putf_ne h]
      refine ⟨by omega, fun e hm => ?_⟩
      rcases List.mem_cons.mp hm with q | q
      · exact absurd q.symm h
      · have := i2 e q
        omega
theorem msr_put {f : Str → Option Int} {z : Str} {n : Int} (h : n.toNat < (match f z with | some m => m.toNat | none => 1000)) : ∀ l, msr (putf f z n) l ≤ msr f l ∧ (z ∈ l → msr (putf f z n) l < msr f l)
  | [] => ⟨Nat.le_refl _, fun h => nomatch h⟩
  | y :: r => by
    obtain ⟨i1, i2⟩ := msr_put h r
    show (match putf f z n y with | some n => n.toNat | none => 1000) + msr (putf f z n) r ≤ (match f y with | some n => n.toNat | none => 1000) + msr f r ∧ (z ∈ y :: r → (match putf f z n y with | some n => n.toNat | none => 1000) + msr (putf f z n) r < (match f y with | some n => n.toNat | none => 1000) + msr f r)
    by_cases e : y = z
    · subst e
      rw [putf_same]
      simp only
      exact ⟨by omega, fun _ => by omega⟩
    · rw [putf_ne e]
      refine ⟨by omega, fun hm => ?_⟩
      rcases List.mem_cons.mp hm with q | q
      · exact absurd q.symm e
      · have := i2 q
        omega
theorem msr_le (f : Str → Option Int) (h : ∀ z n, f z = some n → n ≤ 1000) : ∀ l, msr f l ≤ 1000 * l.length
  | [] => Nat.le_refl _
  | z :: r => by
    have ih := msr_le f h r
    show (match f z with | some n => n.toNat | none => 1000) + msr f r ≤ 1000 * (r.length + 1)
    cases e : f z with
    | none => simp only; omega
    | some n =>
      have := h z n e
      simp only
      omega
structure FarI (N : Nt) (g : Str) (f : Str → Option Int) : Prop where
  go : f g = some 0
  lo : ∀ z n, f z = some n → 0 ≤ n ∧ n ≤ 9 * (cnt f N.names : Int)
  by_ : ∀ z n, f z = some n → z ≠ g → ∃ (i : Nat) (l : Ln) (m : Int), N.lines[i]? = some l ∧ l.fr = z ∧ f l.to = some m ∧ l.tn + m ≤ n
def Relx (f : Str → Option Int) (l : Ln) : Prop := ∀ m, f l.to = some m → ∃ n, f l.fr = some n ∧ n ≤ m + l.tn
def FarOk (N : Nt) (g : Str) (f : Str → Option Int) : Prop := ∀ z n, f z = some n → z ≠ g → ∃ (i : Nat) (l : Ln) (m : Int), N.lines[i]? = some l ∧ l.fr = z ∧ f l.to = some m ∧ l.tn + m = n
theorem FarI.ok {N : Nt} {g : Str} {f : Str → Option Int} (F : FarI N g f) (h : ∀ l ∈ N.lines, Relx f l) : FarOk N g f := fun z n e ne => by
  obtain ⟨i, l, m, h1, h2, h3, h4⟩ := F.by_ z n e ne
  refine ⟨i, l, m, h1, h2, h3, ?_⟩
  obtain ⟨n', e', le⟩ := h l (List.mem_of_getElem? h1) m h3
  rw [h2, e] at e'
  cases e'
  omega
theorem FarI.start {N : Nt} {g : Str} : FarI N g (putf (fun _ => none) g 0) where
  go := putf_same
  lo := fun z n e => by
    by_cases h : z = g
    · rw [h, putf_same] at e
      cases e
      exact ⟨Int.le_refl _, by omega⟩
    · rw [putf_ne h] at e
      cases e
  by_ := fun z n e ne => by
    rw [putf_ne ne] at e
    cases e
theorem FarI.step {N : Nt} {g : Str} {f : Str → Option Int} (F : FarI N g f) (ok : NtOk N) {i : Nat} {l : Ln} (hl : N.lines[i]? = some l) {m : Int} (hm : f l.to = some m) (hn : ∀ n, f l.fr = some n → m + l.tn < n) :
    FarI N g (putf f l.fr (m + l.tn)) ∧ msr (putf f l.fr (m + l.tn)) N.names < msr f N.names := by
  have lo := ok.ln l (List.mem_of_getElem? hl)
  obtain ⟨m0, m9⟩ := F.lo _ _ hm
  obtain ⟨t1, t9⟩ := lo.tn
  have ng : l.fr ≠ g := fun e => by
    have := hn 0 (by rw [e]; exact F.go)
    omega
  have c12 : cnt f N.names ≤ 12 := Nat.le_trans (cnt_le f N.names) ok.few
  obtain ⟨c1, c2⟩ := cnt_put (f := f) (z := l.fr) (n := m + l.tn) N.names
  refine ⟨⟨?_, fun z n e => ?_, fun z n e ne => ?_⟩, ?_⟩
  · rw [putf_ne ng.symm]
    exact F.go
  · by_cases h : z = l.fr
    · rw [h, putf_same] at e
      cases e
      refine ⟨by omega, ?_⟩
      cases q : f l.fr with
      | none =>
        have := c2 q lo.fr
        omega
      | some n0 =>
        have h1 := hn n0 q
        have h2 := (F.lo _ _ q).2
        omega
    · rw [putf_ne h] at e
      have := F.lo z n e
      exact ⟨this.1, by omega⟩
  · by_cases h : z = l.fr
    · rw [h, putf_same] at e
      cases e
      exact ⟨i, l, m, hl, h.symm, by rw [putf_ne lo.ne.symm]; exact hm, by omega⟩
    · rw [putf_ne h] at e
      obtain ⟨i', l', m', h1, h2, h3, h4⟩ := F.by_ z n e ne
      by_cases q : l'.to = l.fr
      · have := hn m' (by rw [← q]; exact h3)
        exact ⟨i', l', m + l.tn, h1, h2, by rw [q, putf_same], by omega⟩
      · exact ⟨i', l', m', h1, h2, by rw [putf_ne q]; exact h3, h4⟩
  · refine (msr_put ?_ N.names).2 lo.fr
    cases q : f l.fr with
    | none => simp only; omega
    | some n0 =>
      have := hn n0 q
      simp only
      omega
section
variable {P : Program} {w : World} {K : PySem.W.Frag} {mg : Str → Option Value} {base : Heap} {c : Cs}
def spFars (c : Cs) : Sp := fun vs H Q _ => ∃ (p : Addr) (N : Nt) (g : Str), vs = [.ref p, .str g] ∧ NetAt c H p N ∧ NtOk N ∧
  ∀ H' d kvs f, Same H H' → H d = none → H' d = some (.dK kvs) → Rep kvs f → FarOk N g f → Q (.ref d) H'
theorem rep0 {g : Str} : Rep (putK ([] : List (Key × V)) (Sum.inr g : Key) (.int 0)) (putf (fun _ => none) g 0) := Rep.put (kvs := []) (fun _ => rfl) g 0
theorem ok_fars (T : Txt K mg c) : C8.Cal P w K mg base 1 "fars" (spFars c) [] := by
  refine cal_of T.d_fars sc_fars (fun _ _ _ _ _ _ us hl => match us, hl with | [_, _], _ => rfl) (fun vs H Q E h => ?_) (fun f cdv A outer s H vs Q E hr h => ?_)
  · obtain ⟨p, N, g, rfl, _⟩ := h
    rfl
  · obtain ⟨p, N, g, rfl, ⟨dx, an, al, h1, h2, las, h3, h4⟩, ok, k⟩ := h
    have hu := hu_of hr
    refine ⟨_, (pss_cons (ps_set (i := 2) sc_fars.nd rfl (Or.inl rfl) (pe_disp (pps_cons (pv 1) pe_int pps_nil) (by rfl) (by rfl) (fun z => by cases z) (by decide)))
  (pss_cons (ps_set (i := 3) sc_fars.nd rfl (Or.inl rfl) pe_bl)
  (pss_cons (ps_while PassesOwn.never (pt_val (pv 3)) (pss_cons (ps_set (i := 3) sc_fars.nd rfl (Or.inl rfl) pe_bl)
  (pss_one (ps_for PassesOwn.never rfl (pi_list (pe_fld (pv 0) rfl)) (pg_name (i := 4) sc_fars.nd rfl (Or.inl rfl)) (pss_one (ps_if (pt_cmp (pc_din hu (pe_ix ix_tup (pv 4) pe_int (fun _ _ => rfl)) (pv 2))) (pss_cons (ps_set (i := 5) sc_fars.nd rfl (Or.inl rfl) (pe_op op_add (pe_dget hu (pv 2) (pe_ix ix_tup (pv 4) pe_int (fun _ _ => rfl)) (fun _ _ => rfl)) (pe_ix ix_tup (pv 4) pe_int (fun _ _ => rfl))))
  (pss_one (ps_if (pt_cmpR op_lt (pv 5) (pe_dget2 hu (pv 2) (pe_ix ix_tup (pv 4) pe_int (fun _ _ => rfl)) (pe_op op_add (pv 5) pe_int) ⟨rfl, rfl, rfl, rfl⟩) (nomark _)) (pss_cons (ps_dput hu (pv 2) (pe_ix ix_tup (pv 4) pe_int (fun _ _ => rfl)) (pv 5) rfl)
  (pss_one (ps_set (i := 3) sc_fars.nd rfl (Or.inl rfl) pe_bl))) pss_nil))) pss_nil))))))
  (pss_one (ps_ret (pv 2)))))), ?_⟩
    have lenl : las.length = N.lines.length := h4.length
    -- told = {goal: 0}
    intro d hd
    refine ⟨_, rfl, upd_same, [((Sum.inr g : Key), V.int 0)], rfl, (by show 1 ≤ 15; decide), ?_⟩
    show tSeq _ _ _ _ (upd (upd H d (.dK [])) d (.dK (putK ([] : List (Key × V)) (Sum.inr g : Key) (.int 0))))
    rw [upd_upd]
    refine sq_set val_c ?_
    generalize hM : msr (putf (fun _ => none) g 0) N.names = M0
    have hM0 : M0 ≤ 12000 := by
      rw [← hM]
      refine Nat.le_trans (msr_le _ (fun z n e => ?_) _) (by have := ok.few; omega)
      by_cases h : z = g
      · rw [h, putf_same] at e
        cases e
        decide
      · rw [putf_ne h] at e
        cases e
    refine ⟨fun m σ H' => ∃ (b : Bool) (kvs : List (Key × V)) (f : Str → Option Int) (o4 o5 : Option V), σ = [some (.ref p), some (.str g), some (.ref d), some (.bl b), o4, o5] ∧ Same H H' ∧ H' d = some (.dK kvs) ∧ Rep kvs f ∧ FarI N g f ∧
      (b = false → ∀ l ∈ N.lines, Relx f l) ∧ kvs.length + msr f N.names ≤ 1 + M0 ∧ m = 2 * msr f N.names + (if b = true then 1 else 0), ⟨_, true, _, _, _, _, rfl, Same.new hd, upd_same, rep0, FarI.start, (fun q => nomatch q), (by rw [hM]; exact Nat.le_refl _), rfl⟩, ?_⟩
    rintro m σ H1 ⟨b, kvs, f, o4, o5, rfl, s, hk, rep, F, hrel, hlen, rfl⟩
    refine ⟨_, rfl, b, rfl, ?_⟩
    cases b with
    | false => exact iteF (st_ret (val_var rfl) (k H1 d kvs f s hd hk rep (F.ok (hrel rfl))))
    | true =>
      refine iteT ⟨fun σ' H' => ∃ (b : Bool) (kvs : List (Key × V)) (f' : Str → Option Int) (o4 o5 : Option V), σ' = [some (.ref p), some (.str g), some (.ref d), some (.bl b), o4, o5] ∧ Same H H' ∧ H' d = some (.dK kvs) ∧ Rep kvs f' ∧ FarI N g f' ∧
        (b = false → f' = f ∧ ∀ j l, j < N.lines.length → N.lines[j]? = some l → Relx f l) ∧ (b = true → msr f' N.names < msr f N.names) ∧ kvs.length + msr f' N.names ≤ 1 + M0, ?_, ?_⟩
      · rintro σ' H' ⟨b, kvs', f', o4, o5, rfl, s', hk', rep', F', hb1, hb2, hl'⟩
        refine ⟨2 * msr f' N.names + (if b = true then 1 else 0), ?_, b, kvs', f', o4, o5, rfl, s', hk', rep', F', fun e l hm => ?_, hl', rfl⟩
        · cases b with
          | true =>
            have := hb2 rfl
            show 2 * msr f' N.names + 1 < 2 * msr f N.names + 1
            omega
          | false =>
            rw [(hb1 rfl).1]
            show 2 * msr f N.names + 0 < 2 * msr f N.names + 1
            omega
        · obtain ⟨j, hj⟩ := List.getElem?_of_mem hm
          rw [(hb1 e).1]
          exact (hb1 e).2 j l (lt_of_at hj) hj
      · refine sq_set val_c ?_
        have hal := s _ _ h3
        refine ⟨_, rfl, p, c.net, dx, _, _, rfl, s _ _ h1, T.cl_Net, T.n_Net_lines, lk_Net_lines, al, rfl, ⟨_, SqL.of hal⟩, ?_⟩
        refine for_list (K := K) (xs := las.map V.ref) (fun i σ' H' => ∃ (b : Bool) (kvs : List (Key × V)) (f' : Str → Option Int) (o4 o5 : Option V), σ' = [some (.ref p), some (.str g), some (.ref d), some (.bl b), o4, o5] ∧ Same H H' ∧ H' d = some (.dK kvs) ∧ Rep kvs f' ∧ FarI N g f' ∧
          (b = false → f' = f ∧ ∀ j l, j < i → N.lines[j]? = some l → Relx f l) ∧ (b = true → msr f' N.names < msr f N.names) ∧ kvs.length + msr f' N.names ≤ 1 + M0) ⟨false, kvs, f, _, _, rfl, s, hk, rep, F, fun _ => ⟨rfl, fun j l h => absurd h (Nat.not_lt_zero _)⟩, (fun q => nomatch q), hlen⟩ (fun i σ' H' _ ⟨_, _, _, _, _, _, s', _⟩ => SqL.of (s' _ _ h3)) ?_ ?_
        · rintro i x σ' H2 hi ⟨b, kvs', f', o4', o5', rfl, s', hk', rep', F', hb1, hb2, hl'⟩
          obtain ⟨a, ha, rfl⟩ := map_of hi
          obtain ⟨l, hl, hla⟩ := Paired.at_l h4 ha
          have hT : SqT K H2 a (lnV l) := SqT.of (s' _ _ hla)
          have vto : ∀ σ : L2.St, σ[4]? = some (some (.ref a)) → Val (tOp (rIxT K) (tVar 4) (tC (.int 1))) σ H2 (.str l.to) := fun σ e => v_ixTn (j := 1) hT (val_var e) rfl
          have vfr : ∀ σ : L2.St, σ[4]? = some (some (.ref a)) → Val (tOp (rIxT K) (tVar 4) (tC (.int 0))) σ H2 (.str l.fr) := fun σ e => v_ixTn (j := 0) hT (val_var e) rfl
          have gto : DGet H2 d (.str l.to) ((f' l.to).map V.int) := by
            rw [← rep' l.to]
            exact DGet.k (k := Sum.inr l.to) hk'
          have gfr : DGet H2 d (.str l.fr) ((f' l.fr).map V.int) := by
            rw [← rep' l.fr]
            exact DGet.k (k := Sum.inr l.fr) hk'
          have more : Relx f' l → b = false → f' = f ∧ ∀ j l', j < i + 1 → N.lines[j]? = some l' → Relx f l' := fun r e => by
            refine ⟨(hb1 e).1, fun j l' hj hj' => ?_⟩
            by_cases q : j = i
            · subst q
              rw [hl] at hj'
              cases hj'
              rw [← (hb1 e).1]
              exact r
            · exact (hb1 e).2 j l' (by omega) hj'
          cases e : f' l.to with
          | none =>
            rw [e] at gto
            refine st_no (Ans.to (ans_val (v_din gto (vto _ rfl) (val_var rfl))) rfl) ?_
            exact ⟨b, kvs', f', _, _, rfl, s', hk', rep', F', (more fun m q => by rw [e] at q; cases q), hb2, hl'⟩
          | some m =>
            rw [e] at gto
            refine st_yes (Ans.to (ans_val (v_din gto (vto _ rfl) (val_var rfl))) rfl) ?_
            refine sq_set (v_add (i := m) (j := l.tn) (v_dget gto (val_var rfl) (vto _ rfl)) (v_ixTn (j := 2) hT (val_var rfl) rfl)) ?_
            have vget := v_dget2 (ta := tVar 2) (tb := tOp (rIxT K) (tVar 4) (tC (.int 0))) (tc := tOp (rI0 fun i j => .int (i + j)) (tVar 5) (tC (.int 1))) (σ := [some (.ref p), some (.str g), some (.ref d), some (.bl b), some (.ref a), some (.int (m + l.tn))]) (.inl ⟨_, .inl hk'⟩) gfr (val_var rfl) (vfr _ rfl) (v_add (i := m + l.tn) (j := 1) (val_var rfl) val_c)
            -- the smaller number is told
            have tell : (∀ n, f' l.fr = some n → m + l.tn < n) → Ans (tTest (tOp (rI0 fun i j => .bl (decide (i < j))) (tVar 5) (tDGet2 (tVar 2) (tOp (rIxT K) (tVar 4) (tC (.int 0))) (tOp (rI0 fun i j => .int (i + j)) (tVar 5) (tC (.int 1)))))) [some (.ref p), some (.str g), some (.ref d), some (.bl b), some (.ref a), some (.int (m + l.tn))] H2 true := fun hn => by
              cases e2 : f' l.fr with
              | none =>
                rw [e2] at vget
                exact Ans.to (ans_test (v_lt (val_var rfl) vget)) (decide_eq_true (by omega))
              | some n =>
                rw [e2] at vget
                exact Ans.to (ans_test (v_lt (val_var rfl) vget)) (decide_eq_true (hn n e2))
            by_cases hn : ∀ n, f' l.fr = some n → m + l.tn < n
            · obtain ⟨F2, ms⟩ := F'.step ok hl e hn
              refine st_yes (tell hn) ?_
              refine ⟨_, rfl, _, rfl, ?_⟩
              refine vfr _ rfl _ ?_
              refine ⟨d, _, rfl, DPut.k (k := Sum.inr l.fr) hk' (sz_lt (by omega)), ?_⟩
              refine ⟨true, _, _, _, _, rfl, s'.mut hd, upd_same, rep'.put l.fr (m + l.tn), F2, (fun q => nomatch q), fun _ => ?_, ?_⟩
              · cases b with
                | true => exact Nat.lt_trans ms (hb2 rfl)
                | false => rw [← (hb1 rfl).1]; exact ms
              · have := length_putK kvs' (Sum.inr l.fr : Key) (.int (m + l.tn))
                omega
            · obtain ⟨n, e2, hle⟩ : ∃ n, f' l.fr = some n ∧ n ≤ m + l.tn := by
                cases e2 : f' l.fr with
                | none => exact absurd (fun n q => by rw [e2] at q; cases q) hn
                | some n =>
                  refine ⟨n, rfl, ?_⟩
                  by_cases q : m + l.tn < n
                  · exact absurd (fun n' q' => by rw [e2] at q'; cases q'; exact q) hn
                  · omega
              rw [e2] at vget
              refine st_no (Ans.to (ans_test (v_lt (val_var rfl) vget)) (decide_eq_false (by omega))) ?_
              exact ⟨b, kvs', f', _, _, rfl, s', hk', rep', F', (more fun m' q => by rw [e] at q; cases q; exact ⟨n, e2, hle⟩), hb2, hl'⟩
        · rintro σ' H' q
          rw [List.length_map, lenl] at q
          exact q
end
end PR
set_option Elab.async false
set_option maxRecDepth 100000
set_option linter.all false
set_option maxHeartbeats 1000000
/-! The tables of ways. -/
namespace PR
open PySem PySem.Spec PyProof.Rows L2
theorem valV_drop {κ : Type} [DecidableEq κ] (k j : κ) : ∀ kvs : List (κ × V), valV (dropK kvs k) j = if j = k then none else valV kvs j
  | [] => by
    show none = _
    split <;> rfl
  | (a, v) :: r => by
    have ih := valV_drop k j r
    have e : dropK ((a, v) :: r) k = if decide (a ≠ k) = true then (a, v) :: dropK r k else dropK r k := List.filter_cons
    rw [e]
    by_cases h : a = k
    · rw [if_neg (by simp [h]), ih]
      by_cases q : j = k
      · rw [if_pos q, if_pos q]
      · rw [if_neg q, if_neg q, valV_neg (by show ¬ a = j; rw [h]; exact fun z => q z.symm)]
    · rw [if_pos (by simp [h])]
      by_cases q : a = j
      · rw [valV_pos q, valV_pos q, if_neg (by rw [← q]; exact h)]
      · rw [valV_neg q, valV_neg q, ih]
theorem dropK_le' {κ : Type} [DecidableEq κ] (kvs : List (κ × V)) (k : κ) : (dropK kvs k).length ≤ kvs.length := List.length_filter_le _ _
/-- a heap that forgets one object -/
def hid (H : Hp) (a : Addr) : Hp := fun b => if b = a then none else H b
theorem hid_same {H : Hp} {a : Addr} : hid H a a = none := if_pos rfl
theorem hid_ne {H : Hp} {a b : Addr} (h : b ≠ a) : hid H a b = H b := if_neg h
theorem hid_sub {H : Hp} {a : Addr} : Same (hid H a) H := fun b o e => by
  by_cases h : b = a
  · rw [h, hid_same] at e
    cases e
  · rw [hid_ne h] at e
    exact e
theorem hid_of {G H : Hp} {a : Addr} (s : Same G H) (n : G a = none) : Same G (hid H a) := fun b o e => by
  rw [hid_ne (ne_of_none e n)]
  exact s b o e
/-- what is kept but at p, is kept of what does not know p -/
theorem keep_same {G H H' : Hp} {p : Addr} (k : ∀ b o, H b = some o → b ≠ p → H' b = some o) (s : Same G H) (n : G p = none) : Same G H' := fun b o e => k b o (s b o e) (ne_of_none e n)
/-! ### a table of ways -/
def RepT (kvs : List (List Key × V)) (tf : Str → Str → Option Nat) : Prop := ∀ h g, valV kvs [Sum.inr h, Sum.inr g] = (tf h g).map nat
def TfOk (N : Nt) (tf : Str → Str → Option Nat) : Prop := ∀ h g r, tf h g = some r → ∃ l, N.lines[r]? = some l ∧ l.fr = h
def putT (tf : Str → Str → Option Nat) (h g : Str) (r : Option Nat) : Str → Str → Option Nat := fun a b => if a = h ∧ b = g then r else tf a b
theorem pair_eq {a b h g : Str} : ([Sum.inr a, Sum.inr b] : List Key) = [Sum.inr h, Sum.inr g] ↔ a = h ∧ b = g := by
  constructor
  · intro e
    injection e with e1 e2
    injection e2 with e3 _
    exact ⟨Sum.inr.inj e1, Sum.inr.inj e3⟩
  · rintro ⟨rfl, rfl⟩
    rfl
theorem RepT.put {kvs : List (List Key × V)} {tf : Str → Str → Option Nat} (r : RepT kvs tf) (h g : Str) (n : Nat) : RepT (putK kvs [Sum.inr h, Sum.inr g] (nat n)) (putT tf h g (some n)) := fun a b => by
  rw [valV_put]
  unfold putT
  by_cases e : a = h ∧ b = g
  · rw [if_pos (pair_eq.mpr e), if_pos e]
    rfl
  · rw [if_neg (fun z => e (pair_eq.mp z)), if_neg e]
    exact r a b
theorem RepT.drop {kvs : List (List Key × V)} {tf : Str → Str → Option Nat} (r : RepT kvs tf) (h g : Str) : RepT (dropK kvs [Sum.inr h, Sum.inr g]) (putT tf h g none) := fun a b => by
  rw [valV_drop]
  unfold putT
  by_cases e : a = h ∧ b = g
  · rw [if_pos (pair_eq.mpr e), if_pos e]
    rfl
  · rw [if_neg (fun z => e (pair_eq.mp z)), if_neg e]
    exact r a b
theorem RepT.dropped {kvs : List (List Key × V)} {tf : Str → Str → Option Nat} (r : RepT kvs tf) {h g : Str} (e : valV kvs [Sum.inr h, Sum.inr g] = none) : RepT kvs (putT tf h g none) := fun a b => by
  unfold putT
  by_cases q : a = h ∧ b = g
  · rw [if_pos q, q.1, q.2, e]
    rfl
  · rw [if_neg q]
    exact r a b
theorem TfOk.put {N : Nt} {tf : Str → Str → Option Nat} (t : TfOk N tf) {h g : Str} {n : Nat} {l : Ln} (hl : N.lines[n]? = some l) (e : l.fr = h) : TfOk N (putT tf h g (some n)) := fun a b r q => by
  unfold putT at q
  by_cases z : a = h ∧ b = g
  · rw [if_pos z] at q
    cases q
    exact ⟨l, hl, e.trans z.1.symm⟩
  · rw [if_neg z] at q
    exact t a b r q
theorem TfOk.drop {N : Nt} {tf : Str → Str → Option Nat} (t : TfOk N tf) {h g : Str} : TfOk N (putT tf h g none) := fun a b r q => by
  unfold putT at q
  by_cases z : a = h ∧ b = g
  · rw [if_pos z] at q
    cases q
  · rw [if_neg z] at q
    exact t a b r q
/-- is a road the first of a shortest way -/
def firstB (f : Str → Option Int) (t : Int) (l : Ln) : Bool := match f l.to with
  | some m => decide (l.tn + m = t)
  | none => false
section
variable {P : Program} {w : World} {K : PySem.W.Frag} {mg : Str → Option Value} {base : Heap} {c : Cs}
def spFirst : Sp := fun vs H Q _ => ∃ (a d : Addr) (l : Ln) (kvs : List (Key × V)) (f : Str → Option Int) (t : Int), vs = [.ref a, .ref d, .int t] ∧ LnAt H a l ∧ H d = some (.dK kvs) ∧ Rep kvs f ∧ Q (.bl (firstB f t l)) H
theorem ok_is_first (T : Txt K mg c) : C8.Cal P w K mg base 1 "is_first" (spFirst) [] := by
  refine cal_of T.d_is_first sc_is_first (fun _ _ _ _ _ _ us hl => match us, hl with | [_, _, _], _ => rfl) (fun vs H Q E h => ?_) (fun f cdv A outer s H vs Q E hr h => ?_)
  · obtain ⟨a, d, l, kvs, f, t, rfl, _⟩ := h
    rfl
  · obtain ⟨a, d, l, kvs, f, t, rfl, ha, hd, rep, k⟩ := h
    have hu := hu_of hr
    refine ⟨_, (pss_one (ps_ret (pe_and (pe_cmp (pc_din hu (pe_ix ix_tup (pv 0) pe_int (fun _ _ => rfl)) (pv 1)) rfl) (pe_one (pe_cmpR op_eq (pe_op op_add (pe_ix ix_tup (pv 0) pe_int (fun _ _ => rfl)) (pe_dget hu (pv 1) (pe_ix ix_tup (pv 0) pe_int (fun _ _ => rfl)) (fun _ _ => rfl))) (pv 2) (nomark _)))))), ?_⟩
    have hT : SqT K H a (lnV l) := SqT.of ha
    have vto : Val (tOp (rIxT K) (tVar 0) (tC (.int 1))) [some (.ref a), some (.ref d), some (.int t)] H (.str l.to) := v_ixTn (j := 1) hT (val_var rfl) rfl
    have g : DGet H d (.str l.to) ((f l.to).map V.int) := by
      rw [← rep l.to]
      exact DGet.k (k := Sum.inr l.to) hd
    refine st_ret (v := .bl (firstB f t l)) ?_ k
    unfold firstB
    cases e : f l.to with
    | none =>
      rw [e] at g
      exact Val.to (val_and (b := true) (v_din g vto (val_var rfl)) fun z => nomatch z) rfl
    | some m =>
      rw [e] at g
      refine Val.to (val_and (v_din g vto (val_var rfl)) fun _ => v_eq (v_add (i := l.tn) (j := m) (v_ixTn (j := 2) hT (val_var rfl) rfl) (v_dget g (val_var rfl) vto)) (val_var rfl) rfl) ?_
      show V.bl (true && decide (V.int (l.tn + m) = V.int t)) = .bl (decide (l.tn + m = t))
      rw [Bool.true_and]
      exact congrArg V.bl (decide_eq_decide.mpr ⟨fun z => V.int.inj z, fun z => congrArg V.int z⟩)
/-! ### Ways -/
def spWaysInit (c : Cs) : Sp := fun vs H Q _ => ∃ (p dx pn : Addr), vs = [.ref p, .ref pn] ∧ H p = some (.ins c.ways dx []) ∧ ∀ H' t, (∀ b o, H b = some o → b ≠ p → H' b = some o) → H t = none → H' p = some (.ins c.ways dx (waysF (.ref pn) (.ref t))) → H' t = some (.dT []) → Q .non H'
theorem ok_Ways_init (T : Txt K mg c) : C8.Mak P w K mg base 1 "Ways" c.ways (spWaysInit c) [] := by
  refine mak_of T.m_Ways T.d_Ways_init sc_Ways_init (fun _ _ _ _ _ _ us hl => match us, hl with | [_, _], _ => rfl) (fun vs H Q E h => ?_) (fun f cdv A outer s H vs Q E hr h => ?_)
  · obtain ⟨p, dx, pn, rfl, _⟩ := h
    rfl
  · obtain ⟨p, dx, pn, rfl, hp, k⟩ := h
    have hu := hu_of hr
    refine ⟨_, (pss_cons (ps_fld (pv 0) (pv 1) rfl)
  (pss_one (ps_fld (pv 0) pe_dnewT rfl))), ?_⟩
    refine ⟨_, rfl, _, rfl, p, c.ways, dx, [], rfl, hp, T.cl_Ways, T.n_Ways_net, (by decide), ?_⟩
    intro t ht
    have htp : t ≠ p := fun z => by rw [z, upd_same] at ht; cases ht
    have ht0 : H t = none := by rw [upd_ne htp] at ht; exact ht
    refine ⟨_, rfl, p, c.ways, dx, _, rfl, (by rw [upd_ne htp.symm, upd_same]), T.cl_Ways, T.n_Ways_told, (by rw [pi_Ways_net]; show 1 < 1000; decide), ?_⟩
    rw [pi_Ways_net, pi_Ways_told]
    refine k _ t (fun b o e hb => ?_) ht0 upd_same (by rw [upd_ne htp, upd_same])
    rw [upd_ne hb, upd_ne (ne_of_none e ht0), upd_ne hb]
    exact e
def spNeedPair (c : Cs) : Sp := fun vs H Q _ => ∃ (p dx pn pt : Addr) (N : Nt) (h g : Str), vs = [.ref p, .str h, .str g] ∧ H p = some (.ins c.ways dx (waysF (.ref pn) (.ref pt))) ∧ NetAt c H pn N ∧ h ∈ N.names ∧ g ∈ N.names ∧ h ≠ g ∧ Q .non H
theorem ok_Ways_need_pair (T : Txt K mg c) : C8.Met P w K mg base 2 c.ways "need_pair" (spNeedPair c) [] := by
  refine met_of T.cl_Ways T.d_Ways_need_pair sc_Ways_need_pair (fun _ _ _ _ _ _ us hl => match us, hl with | [_, _, _], _ => rfl) (fun vs H Q E h => ?_) (fun f cdv A outer s H vs Q E hr h => ?_)
  · obtain ⟨p, dx, pn, pt, N, h, g, rfl, _⟩ := h
    rfl
  · obtain ⟨p, dx, pn, pt, N, h, g, rfl, hp, hN, hh, hg, ne, k⟩ := h
    have hu := hu_of hr
    have T_Net_known := ok_Net_known (P := P) (w := w) (base := base) T
    refine ⟨_, (pss_cons (ps_expr (C8.pe_mt T_Net_known hr (by decide) (pe_fld (pv 0) rfl) (pa_cons (pv 1) pa_nil)))
  (pss_cons (ps_expr (C8.pe_mt T_Net_known hr (by decide) (pe_fld (pv 0) rfl) (pa_cons (pv 2) pa_nil)))
  (pss_one (ps_if (pt_cmpR op_eq (pv 1) (pv 2) (nomark _)) (pss_one ps_never) pss_nil)))), ?_⟩
    obtain ⟨dn, an, al, h1, h2, h3⟩ := id hN
    refine ⟨_, rfl, p, c.ways, dx, _, _, rfl, hp, T.cl_Ways, T.n_Ways_net, lk_Ways_net, pn, dn, _, rfl, h1, ln_Net_known, _, rfl, pn, N, h, rfl, hN, hh, ?_⟩
    refine ⟨_, rfl, p, c.ways, dx, _, _, rfl, hp, T.cl_Ways, T.n_Ways_net, lk_Ways_net, pn, dn, _, rfl, h1, ln_Net_known, _, rfl, pn, N, g, rfl, hN, hg, ?_⟩
    exact st_no (Ans.to (ans_test (v_eq (val_var rfl) (val_var rfl) rfl)) (decide_eq_false fun e => ne (V.str.inj e))) k
def spSetWay (c : Cs) : Sp := fun vs H Q _ => ∃ (p dx pn pt : Addr) (N : Nt) (h g : Str) (r : Nat) (l : Ln) (kvs : List (List Key × V)), vs = [.ref p, .str h, .str g, nat r] ∧ H p = some (.ins c.ways dx (waysF (.ref pn) (.ref pt))) ∧ H pt = some (.dT kvs) ∧ kvs.length ≤ 10000 ∧ NetAt c H pn N ∧ N.lines.length ≤ 40 ∧
  h ∈ N.names ∧ g ∈ N.names ∧ h ≠ g ∧ N.lines[r]? = some l ∧ l.fr = h ∧ ∀ H', (∀ b o, H b = some o → b ≠ pt → H' b = some o) → H' pt = some (.dT (putK kvs [Sum.inr h, Sum.inr g] (nat r))) → Q .non H'
theorem inV_nat {n : Nat} : ∀ ns : List Nat, inV (nat n) (ns.map nat) = decide (n ∈ ns)
  | [] => rfl
  | a :: r => by
    have ih := inV_nat (n := n) r
    show (eqV (nat a) (nat n) || inV (nat n) (r.map nat)) = _
    rw [ih]
    by_cases h : a = n
    · subst h
      simp [eqV, nat]
    · have h' : ¬ n = a := fun e => h e.symm
      have e : eqV (nat a) (nat n) = false := by
        simp only [eqV, nat]
        exact beq_eq_false_iff_ne.mpr (by omega)
      rw [e]
      simp [h']
theorem flat_nat (ns : List Nat) : (ns.map nat).all flatV = true := by
  rw [List.all_map]
  exact List.all_eq_true.mpr fun _ _ => rfl
theorem ok_Ways_set_way (T : Txt K mg c) : C8.Met P w K mg base 3 c.ways "set_way" (spSetWay c) [] := by
  refine met_of T.cl_Ways T.d_Ways_set_way sc_Ways_set_way (fun _ _ _ _ _ _ us hl => match us, hl with | [_, _, _, _], _ => rfl) (fun vs H Q E h => ?_) (fun f cdv A outer s H vs Q E hr h => ?_)
  · obtain ⟨p, dx, pn, pt, N, h, g, r, l, kvs, rfl, _⟩ := h
    rfl
  · obtain ⟨p, dx, pn, pt, N, h, g, r, l, kvs, rfl, hp, ht, hlen, hN, hfl, hh, hg, ne, hl, hfr, k⟩ := h
    have hu := hu_of hr
    have T_Ways_need_pair := ok_Ways_need_pair (P := P) (w := w) (base := base) T
    have T_Net_out_of := ok_Net_out_of (P := P) (w := w) (base := base) T
    refine ⟨_, (pss_cons (ps_expr (C8.pe_mt T_Ways_need_pair hr (by decide) (pv 0) (pa_cons (pv 1) (pa_cons (pv 2) pa_nil))))
  (pss_cons (ps_if (pt_cmpR op_notIn_seq (pv 3) (C8.pe_mt T_Net_out_of hr (by decide) (pe_fld (pv 0) rfl) (pa_cons (pv 1) pa_nil)) rfl) (pss_one ps_never) pss_nil)
  (pss_one (ps_dput hu (pe_fld (pv 0) rfl) (pe_tup (pa_cons (pv 1) (pa_cons (pv 2) pa_nil))) (pv 3) rfl)))), ?_⟩
    obtain ⟨dn, an, al, h1, h2, h3⟩ := id hN
    refine ⟨_, rfl, p, dx, _, rfl, hp, ln_Ways_need_pair, _, rfl, _, rfl, p, dx, pn, pt, N, h, g, rfl, hp, hN, hh, hg, ne, ?_⟩
    -- if road not in self.net.out_of(house)
    refine ⟨_, rfl, _, rfl, p, c.ways, dx, _, _, rfl, hp, T.cl_Ways, T.n_Ways_net, lk_Ways_net, pn, dn, _, rfl, h1, ln_Net_out_of, _, rfl, pn, N, h, rfl, hN, hh, hfl, fun H1 lo s1 hlo e1 => ?_⟩
    refine ⟨lo, _, rfl, .inl (SqL.of e1), rfl, flat_nat _, _, rfl, ?_⟩
    rw [inV_nat, decide_eq_true (mem_outOf.mpr ⟨lt_of_at hl, l, hl, hfr⟩)]
    refine iteF ?_
    -- self.told[house, goal] = road
    refine ⟨_, rfl, _, rfl, p, c.ways, dx, _, _, rfl, s1 _ _ hp, T.cl_Ways, T.n_Ways_told, lk_Ways_told, ?_⟩
    refine ⟨_, rfl, _, rfl, (by show 2 ≤ sizeLine; decide), fun u hu' => ?_⟩
    have hpu : pt ≠ u := ne_of_none (s1 _ _ ht) hu'
    refine ⟨pt, _, rfl, DPut.t (k := [Sum.inr h, Sum.inr g]) (by rw [upd_ne hpu]; exact s1 _ _ ht) upd_same (sz_lt (by omega)), ?_⟩
    refine k _ (fun b o e hb => ?_) upd_same
    rw [upd_ne hb, upd_ne (ne_of_none (s1 _ _ e) hu')]
    exact s1 _ _ e
def spDropWay (c : Cs) : Sp := fun vs H Q _ => ∃ (p dx pn pt : Addr) (N : Nt) (h g : Str) (kvs : List (List Key × V)), vs = [.ref p, .str h, .str g] ∧ H p = some (.ins c.ways dx (waysF (.ref pn) (.ref pt))) ∧ H pt = some (.dT kvs) ∧ NetAt c H pn N ∧
  h ∈ N.names ∧ g ∈ N.names ∧ h ≠ g ∧ ∀ H' kvs', (∀ b o, H b = some o → b ≠ pt → H' b = some o) → H' pt = some (.dT kvs') → (kvs' = dropK kvs [Sum.inr h, Sum.inr g] ∨ (kvs' = kvs ∧ valV kvs [Sum.inr h, Sum.inr g] = none)) → Q .non H'
theorem ok_Ways_drop_way (T : Txt K mg c) : C8.Met P w K mg base 3 c.ways "drop_way" (spDropWay c) [] := by
  refine met_of T.cl_Ways T.d_Ways_drop_way sc_Ways_drop_way (fun _ _ _ _ _ _ us hl => match us, hl with | [_, _, _], _ => rfl) (fun vs H Q E h => ?_) (fun f cdv A outer s H vs Q E hr h => ?_)
  · obtain ⟨p, dx, pn, pt, N, h, g, kvs, rfl, _⟩ := h
    rfl
  · obtain ⟨p, dx, pn, pt, N, h, g, kvs, rfl, hp, ht, hN, hh, hg, ne, k⟩ := h
    have hu := hu_of hr
    have T_Ways_need_pair := ok_Ways_need_pair (P := P) (w := w) (base := base) T
    refine ⟨_, (pss_cons (ps_expr (C8.pe_mt T_Ways_need_pair hr (by decide) (pv 0) (pa_cons (pv 1) (pa_cons (pv 2) pa_nil))))
  (pss_one (ps_expr (pe_bm PySem.F.plainAttrs_dict PySem.F.slot_dict_pop PySem.F.type_dict_pop (DX.mt_popT hu) (pe_fld (pv 0) rfl) (pa_cons (pe_tup (pa_cons (pv 1) (pa_cons (pv 2) pa_nil))) (pa_cons pe_non pa_nil)))))), ?_⟩
    refine ⟨_, rfl, p, dx, _, rfl, hp, ln_Ways_need_pair, _, rfl, _, rfl, p, dx, pn, pt, N, h, g, rfl, hp, hN, hh, hg, ne, ?_⟩
    refine ⟨_, rfl, p, c.ways, dx, _, _, rfl, hp, T.cl_Ways, T.n_Ways_told, lk_Ways_told, .inr (.inr (.inl ⟨rfl, .inr ⟨_, ht⟩⟩)), ?_⟩
    refine ⟨_, rfl, _, rfl, (by show 2 ≤ sizeLine; decide), fun u hu' => ?_⟩
    have hpu : pt ≠ u := ne_of_none ht hu'
    refine ⟨pt, kvs, [Sum.inr h, Sum.inr g], u, .non, rfl, rfl, by rw [upd_ne hpu]; exact ht, upd_same, fun v hv => ?_, fun hv => ?_⟩
    · refine k _ _ (fun b o e hb => ?_) upd_same (.inl rfl)
      rw [upd_ne hb, upd_ne (ne_of_none e hu')]
      exact e
    · refine k _ kvs (fun b o e hb => ?_) (by rw [upd_ne hpu]; exact ht) (.inr ⟨rfl, hv⟩)
      rw [upd_ne (ne_of_none e hu')]
      exact e
end
end PR
set_option Elab.async false
set_option maxRecDepth 100000
set_option linter.all false
set_option maxHeartbeats 1000000
/-! The shortest table. -/
namespace PR
open PySem PySem.Spec PyProof.Rows L2
/-- behind the making of an instance -/
theorem made_keep {H H1 : Hp} {x dx : Addr} {u : HO} (hx : H x = none) (hdx : H dx = none) (k : ∀ b o, (upd (upd H dx (.own x)) x u) b = some o → b ≠ x → H1 b = some o) : Same H H1 := fun b o e => by
  have n1 := ne_of_none e hx
  have n2 := ne_of_none e hdx
  exact k b o (by rw [upd_ne n1, upd_ne n2]; exact e) n1
theorem made_free {H : Hp} {x dx t : Addr} {u : HO} (h : (upd (upd H dx (.own x)) x u) t = none) : H t = none := by
  have n1 : t ≠ x := fun z => by rw [z, upd_same] at h; cases h
  rw [upd_ne n1] at h
  have n2 : t ≠ dx := fun z => by rw [z, upd_same] at h; cases h
  rw [upd_ne n2] at h
  exact h
def prB (N : Nt) (f : Str → Option Int) (t : Int) (r : Nat) : Bool := match N.lines[r]? with
  | some l => firstB f t l
  | none => false
section
variable {P : Program} {w : World} {K : PySem.W.Frag} {mg : Str → Option Value} {base : Heap} {c : Cs}
def spShortest (c : Cs) : Sp := fun vs H Q _ => ∃ (p : Addr) (N : Nt), vs = [.ref p] ∧ NetAt c H p N ∧ NtOk N ∧ ∀ H' pw dx pt kvs tf, Same H H' → H pw = none → H pt = none → H' pw = some (.ins c.ways dx (waysF (.ref p) (.ref pt))) → H' pt = some (.dT kvs) → RepT kvs tf → TfOk N tf → kvs.length ≤ 144 → Q (.ref pw) H'
theorem ok_shortest (T : Txt K mg c) : C8.Cal P w K mg base 4 "shortest" (spShortest c) [] := by
  refine cal_of T.d_shortest sc_shortest (fun _ _ _ _ _ _ us hl => match us, hl with | [_], _ => rfl) (fun vs H Q E h => ?_) (fun f cdv A outer s H vs Q E hr h => ?_)
  · obtain ⟨p, N, rfl, _⟩ := h
    rfl
  · obtain ⟨p, N, rfl, hN, ok, k⟩ := h
    have hu := hu_of hr
    have T_Ways := ok_Ways_init (P := P) (w := w) (base := base) T
    have T_Net_houses := ok_Net_houses (P := P) (w := w) (base := base) T
    have T_fars := ok_fars (P := P) (w := w) (base := base) T
    have T_Net_out_of := ok_Net_out_of (P := P) (w := w) (base := base) T
    have T_Net_road := ok_Net_road (P := P) (w := w) (base := base) T
    have T_is_first := ok_is_first (P := P) (w := w) (base := base) T
    have T_Ways_set_way := ok_Ways_set_way (P := P) (w := w) (base := base) T
    refine ⟨_, (pss_cons (ps_set (i := 1) sc_shortest.nd rfl (Or.inl rfl) (C8.pe_mk T_Ways hr (by decide) rfl (pa_cons (pv 0) pa_nil)))
  (pss_cons (ps_for PassesOwn.never rfl (pi_list (C8.pe_mt0 T_Net_houses hr (by decide) (pv 0))) (pg_name (i := 2) sc_shortest.nd rfl (Or.inl rfl)) (pss_cons (ps_set (i := 3) sc_shortest.nd rfl (Or.inr rfl) (C8.pe_c T_fars hr (by decide) rfl (pa_cons (pv 0) (pa_cons (pv 2) pa_nil))))
  (pss_one (ps_for PassesOwn.never rfl (pi_list (C8.pe_mt0 T_Net_houses hr (by decide) (pv 0))) (pg_name (i := 4) sc_shortest.nd rfl (Or.inr rfl)) (pss_one (ps_if (PW.pt (pw_and (pt_cmpR op_ne (pv 4) (pv 2) (nomark _)) (pw_and1 (pt_cmp (pc_din hu (pv 4) (pv 3)))))) (pss_cons (ps_setLc (i := 5) (own := [("n", 6)]) rfl sc_shortest.nd rfl rfl (sw_true rfl rfl rfl (by decide +kernel)) (pi_list (C8.pe_mt T_Net_out_of hr (by decide) (pv 0) (pa_cons (pv 4) pa_nil))) (blkOk_by (own := [("n", 6)]) (N := N_shortest) (sc := defScope s_shortest) (by decide +kernel)) (fun _ _ _ _ _ => by exact (pg_name (i := 6) sc_shortest.nd rfl (Or.inl rfl))) (fun _ _ _ _ _ => by exact (pts_one (pt_val (C8.pe_c T_is_first hr (by decide) rfl (pa_cons (C8.pe_mt T_Net_road hr (by decide) (pv 0) (pa_cons (pv 6) pa_nil)) (pa_cons (pv 3) (pa_cons (pe_dget hu (pv 3) (pv 4) (fun _ _ => rfl)) pa_nil))))))) (fun _ _ _ _ _ => by exact (pv 6)))
  (pss_one (ps_expr (C8.pe_mt T_Ways_set_way hr (by decide) (pv 1) (pa_cons (pv 4) (pa_cons (pv 2) (pa_cons (pe_ix ix_list (pv 5) pe_int (fun _ _ => rfl)) pa_nil))))))) pss_nil))))))
  (pss_one (ps_ret (pv 1))))), ?_⟩
    refine ⟨_, rfl, fun x dx hx hdx ne => ⟨x, dx, p, rfl, upd_same, fun H1 pt k1 hpt e1 e2 => ⟨rfl, ?_⟩⟩⟩
    have s1 : Same H H1 := made_keep hx hdx k1
    have hpt0 : H pt = none := made_free hpt
    obtain ⟨dn, an, al, n1, n2, n3⟩ := id (hN.mono s1)
    have xpt : x ≠ pt := ne_of e1 e2 (by intro z; cases z)
    -- for goal in net.houses()
    refine ⟨_, rfl, p, dn, _, rfl, n1, ln_Net_houses, p, N, rfl, hN.mono s1, fun H2 l1 s2 hl1 e3 => ⟨l1, rfl, ⟨_, SqL.of e3⟩, ?_⟩⟩
    obtain ⟨G1, hG1⟩ : ∃ G, G = hid H2 pt := ⟨_, rfl⟩
    have g1 : G1 pt = none := by rw [hG1]; exact hid_same
    have sG1 : Same G1 H2 := by rw [hG1]; exact hid_sub
    have s01 : Same H G1 := by rw [hG1]; exact hid_of (s1.trans s2) hpt0
    have g1x : G1 x = some (.ins c.ways dx (waysF (.ref p) (.ref pt))) := by rw [hG1, hid_ne xpt]; exact s2 _ _ e1
    have g1l : G1 l1 = some (.lst (N.names.map V.str)) := by rw [hG1, hid_ne (ne_of_none e2 hl1).symm]; exact e3
    clear hG1
    refine for_list (K := K) (xs := N.names.map V.str) (fun i σ H' => ∃ (kvs : List (List Key × V)) (tf : Str → Str → Option Nat) (o2 o3 o4 o5 : Option V), σ = [some (.ref p), some (.ref x), o2, o3, o4, o5, none] ∧ Same G1 H' ∧ H' pt = some (.dT kvs) ∧ RepT kvs tf ∧ TfOk N tf ∧ kvs.length ≤ 12 * i)
      ⟨[], fun _ _ => none, _, _, _, _, rfl, sG1, s2 _ _ e2, fun _ _ => rfl, (fun _ _ _ q => nomatch q), Nat.zero_le _⟩ (fun i σ H' _ ⟨_, _, _, _, _, _, _, s, _⟩ => SqL.of (s _ _ g1l)) ?_ ?_
    · rintro i y σ H3 hi ⟨kvs, tf, o2, o3, o4, o5, rfl, s3, hk, rep, tok, hlen⟩
      obtain ⟨g, hg, rfl⟩ := map_of hi
      have li := lt_of_at hg
      have hN3 : NetAt c H3 p N := hN.mono (s01.trans s3)
      -- told = fars(net, goal)
      refine ⟨_, rfl, _, rfl, p, N, g, rfl, hN3, ok, fun H4 d kf f s4 hd ed repf far => ?_⟩
      obtain ⟨dn4, an4, al4, m1, m2, m3⟩ := id (hN3.mono s4)
      refine ⟨_, rfl, p, dn4, _, rfl, m1, ln_Net_houses, p, N, rfl, hN3.mono s4, fun H5 l2 s5 hl2 e5 => ⟨l2, rfl, ⟨_, SqL.of e5⟩, ?_⟩⟩
      have hk5 : H5 pt = some (.dT kvs) := s5 _ _ (s4 _ _ hk)
      obtain ⟨G2, hG2⟩ : ∃ G, G = hid H5 pt := ⟨_, rfl⟩
      have g2 : G2 pt = none := by rw [hG2]; exact hid_same
      have sG2 : Same G2 H5 := by rw [hG2]; exact hid_sub
      have s12 : Same G1 G2 := by rw [hG2]; exact hid_of ((s3.trans s4).trans s5) g1
      have dpt : d ≠ pt := (ne_of_none hk hd).symm
      have g2d : G2 d = some (.dK kf) := by rw [hG2, hid_ne dpt]; exact s5 _ _ ed
      have g2l : G2 l2 = some (.lst (N.names.map V.str)) := by rw [hG2, hid_ne (ne_of_none (s4 _ _ hk) hl2).symm]; exact e5
      clear hG2
      refine for_list (K := K) (xs := N.names.map V.str) (fun j σ H' => ∃ (kvs : List (List Key × V)) (tf : Str → Str → Option Nat) (o4 o5 : Option V), σ = [some (.ref p), some (.ref x), some (.str g), some (.ref d), o4, o5, none] ∧ Same G2 H' ∧ H' pt = some (.dT kvs) ∧ RepT kvs tf ∧ TfOk N tf ∧ kvs.length ≤ 12 * i + j)
        ⟨kvs, tf, _, _, rfl, sG2, hk5, rep, tok, hlen⟩ (fun i σ H' _ ⟨_, _, _, _, _, s, _⟩ => SqL.of (s _ _ g2l)) ?_ ?_
      · rintro j y σ H6 hj ⟨kv2, tf2, o4, o5, rfl, s6, hk6, rep6, tok6, hlen6⟩
        obtain ⟨h, hh, rfl⟩ := map_of hj
        have lj := lt_of_at hh
        have few := ok.few
        have hd6 := s6 _ _ g2d
        have gh : DGet H6 d (.str h) ((f h).map V.int) := by
          rw [← repf h]
          exact DGet.k (k := Sum.inr h) hd6
        have test : Ans (tAnd (tTest (tOp rNe (tVar 4) (tVar 2))) (tB (tDIn (tVar 4) (tVar 3)))) [some (.ref p), some (.ref x), some (.str g), some (.ref d), some (.str h), o5, none] H6 (!decide (V.str h = V.str g) && ((f h).map V.int).isSome) :=
          ans_and' (ans_test (v_ne (val_var rfl) (val_var rfl) rfl)) (fun _ => ans_val (v_din gh (val_var rfl) (val_var rfl)))
        by_cases hc : h ≠ g ∧ ∃ t, f h = some t
        · obtain ⟨hne, t, ht⟩ := hc
          rw [ht, decide_eq_false (fun e => hne (V.str.inj e))] at test
          refine st_yes test ?_
          rw [ht] at gh
          have hN6 : NetAt c H6 p N := hN.mono ((s01.trans s12).trans s6)
          obtain ⟨dn6, an6, al6, q1, q2, q3⟩ := id hN6
          -- best = [n for n in net.out_of(house) if is_first(..)]
          refine ⟨_, rfl, p, dn6, _, rfl, q1, ln_Net_out_of, _, rfl, p, N, h, rfl, hN6, List.mem_of_getElem? hh, ok.fl, fun H7 lo s7 hlo e7 => ⟨lo, rfl, ⟨_, SqL.of e7⟩, fun D hD => ?_⟩⟩
          refine lc_list (xs := (outOf N.lines h N.lines.length).map nat) (fun m H' => Same H7 H' ∧ H' D = some (.lst ((((outOf N.lines h N.lines.length).take m).filter (prB N f t)).map nat))) ⟨Same.new hD, upd_same⟩ (fun _ _ _ z => SqL.of (z.1 _ _ e7)) ?_ ?_
          · rintro m y H8 hm ⟨s8, d8⟩
            obtain ⟨r, hr0, rfl⟩ := map_of hm
            obtain ⟨hr1, l, hl, hlf⟩ := mem_outOf.mp (List.mem_of_getElem? hr0)
            have s68 := s7.trans s8
            obtain ⟨dn8, an8, al8, u1, u2, u3⟩ := id (hN6.mono s68)
            refine ⟨rfl, ?_⟩
            refine ⟨_, rfl, p, dn8, _, rfl, u1, ln_Net_road, _, rfl, p, N, r, l, rfl, hN6.mono s68, hl, fun a ha => ⟨_, rfl, ?_⟩⟩
            have gh8 : DGet H8 d (.str h) (some (.int t)) := by
              have z : valV kf (Sum.inr h : Key) = some (.int t) := by rw [repf h, ht] <;> rfl
              rw [← z]
              exact DGet.k (k := Sum.inr h) (s68 _ _ hd6)
            refine (v_dget gh8 (val_var rfl) (val_var rfl) : Val _ _ H8 (.int t)) _ ?_
            refine ⟨a, d, l, kf, f, t, rfl, ha, s68 _ _ hd6, repf, _, rfl, ?_⟩
            have ep : prB N f t r = firstB f t l := by unfold prB; rw [hl]
            rw [take_snoc hr0, List.filter_append, List.filter_cons, ep]
            have tl := List.length_filter_le (prB N f t) ((outOf N.lines h N.lines.length).take m)
            have tl2 := outOf_len N.lines h N.lines.length
            rw [List.length_take] at tl
            have := ok.fl
            cases hb : firstB f t l with
            | true =>
              refine iteT ⟨_, rfl, _, d8, sz_lt (by rw [List.length_map]; omega), s8.mut hD, ?_⟩
              rw [upd_same, if_pos rfl, List.map_append]
              rfl
            | false =>
              refine iteF ⟨s8, ?_⟩
              rw [if_neg Bool.false_ne_true, List.filter_nil, List.append_nil]
              exact d8
          · rintro H8 ⟨s8, d8⟩
            rw [List.length_map, List.take_length] at d8
            generalize hbs : (outOf N.lines h N.lines.length).filter (prB N f t) = bs at d8
            have s68 := s7.trans s8
            -- there is such a road
            obtain ⟨r, rest, hb, l, hl, hlf⟩ : ∃ r rest, bs = r :: rest ∧ ∃ l, N.lines[r]? = some l ∧ l.fr = h := by
              obtain ⟨i0, l0, m0, a1, a2, a3, a4⟩ := far h t ht hne
              have mem : i0 ∈ bs := by
                rw [← hbs]
                refine List.mem_filter.mpr ⟨mem_outOf.mpr ⟨lt_of_at a1, l0, a1, a2⟩, ?_⟩
                unfold prB firstB
                rw [a1]
                simp only [a3]
                exact decide_eq_true a4
              cases hb : bs with
              | nil => rw [hb] at mem; cases mem
              | cons r rest =>
                have mr : r ∈ bs := by rw [hb]; exact List.mem_cons_self
                rw [← hbs] at mr
                obtain ⟨_, l, z1, z2⟩ := mem_outOf.mp (List.mem_filter.mp mr).1
                exact ⟨r, rest, rfl, l, z1, z2⟩
            subst hb
            -- made.set_way(house, goal, best[0])
            refine ⟨_, rfl, x, dx, _, rfl, s68 _ _ (s6 _ _ (s12 _ _ g1x)), ln_Ways_set_way, _, rfl, _, rfl, ?_⟩
            refine (v_ixL (i := ((0 : Nat) : Int)) (SqL.of d8) (val_var rfl) val_c (atI_nat (j := 0) rfl) : Val _ _ H8 (nat r)) _ ?_
            refine ⟨x, dx, p, pt, N, h, g, r, l, kv2, rfl, s68 _ _ (s6 _ _ (s12 _ _ g1x)), s68 _ _ hk6, by omega, hN6.mono s68, ok.fl, List.mem_of_getElem? hh, List.mem_of_getElem? hg, hne, hl, hlf, fun H9 k9 e9 => ?_⟩
            refine ⟨_, _, _, _, rfl, keep_same k9 (s6.trans s68) g2, e9, rep6.put h g r, tok6.put hl hlf, ?_⟩
            have := length_putK kv2 [Sum.inr h, Sum.inr g] (nat r)
            omega
        · have tf : (!decide (V.str h = V.str g) && ((f h).map V.int).isSome) = false := by
            by_cases e : h = g
            · rw [decide_eq_true (congrArg V.str e)] <;> rfl
            · cases q : f h with
              | none => simp
              | some t => exact absurd ⟨e, t, q⟩ hc
          refine st_no (Ans.to test tf) ?_
          exact ⟨kv2, tf2, _, _, rfl, s6, hk6, rep6, tok6, by omega⟩
      · rintro σ H6 ⟨kv2, tf2, o4, o5, rfl, s6, hk6, rep6, tok6, hlen6⟩
        rw [List.length_map] at hlen6
        refine ⟨kv2, tf2, _, _, _, _, rfl, s12.trans s6, hk6, rep6, tok6, ?_⟩
        have := ok.few
        omega
    · rintro σ H3 ⟨kvs, tf, o2, o3, o4, o5, rfl, s3, hk, rep, tok, hlen⟩
      rw [List.length_map] at hlen
      refine st_ret (val_var rfl) (k H3 x dx pt kvs tf (s01.trans s3) hx hpt0 (s3 _ _ g1x) hk rep tok ?_)
      have := ok.few
      omega
end
end PR
set_option Elab.async false
set_option maxRecDepth 100000
set_option linter.all false
set_option maxHeartbeats 1000000
/-! Which letters want to go, the bags, where the letters are left behind them. -/
namespace PR
open PySem PySem.Spec PyProof.Rows L2
theorem vrun {te : TE} {σ : L2.St} {H : Hp} {Q : VK} (v : V) (h : Val te σ H v) (q : Q v H) : te σ H Q := h Q q
theorem tup_go {t : TA} {σ : L2.St} {H : Hp} {Q : VK} (h : t σ H fun xs H1 => xs.length ≤ sizeLine ∧ ∀ p, H1 p = none → Q (.ref p) (upd H1 p (.tup xs))) : tTup t σ H Q := h
theorem lst_go {t : TA} {σ : L2.St} {H : Hp} {Q : VK} (h : t σ H fun xs H1 => xs.length ≤ sizeLine ∧ ∀ p, H1 p = none → Q (.ref p) (upd H1 p (.lst xs))) : tLst t σ H Q := h
theorem cons_go {ta : TE} {tr : TA} {σ : L2.St} {H : Hp} {Q : List V → Hp → Prop} (v : V) (h : Val ta σ H v) (q : tr σ H fun xs H2 => Q (v :: xs) H2) : tCons ta tr σ H Q := h _ q
/-- an entry of the wanted: road, list's address, pairs of since and number -/
structure Wn where
  (rd : Nat) (ad : Addr) (xs : List (Int × Nat))
def wnKV (es : List Wn) : List (Key × V) := es.map fun e => ((Sum.inl (e.rd : Int) : Key), V.ref e.ad)
def PairsAt (H : Hp) (l : Addr) (xs : List (Int × Nat)) : Prop := ∃ ts : List Addr, H l = some (.lst (ts.map V.ref)) ∧ Paired (fun t (x : Int × Nat) => H t = some (.tup [.int x.1, nat x.2])) ts xs
theorem PairsAt.mono {H H' : Hp} {l : Addr} {xs : List (Int × Nat)} (s : Same H H') (h : PairsAt H l xs) : PairsAt H' l xs := let ⟨ts, e, q⟩ := h; ⟨ts, s _ _ e, L2.Paired.mapP q fun _ _ => s _ _⟩
/-- another list, or a new object, was written -/
theorem PairsAt.keep {H H' : Hp} {l a : Addr} {xs : List (Int × Nat)} {u : List V} (hl : l ≠ a) (ha : H a = some (.lst u)) (k : ∀ b o, H b = some o → b ≠ a → H' b = some o) (h : PairsAt H l xs) : PairsAt H' l xs :=
  let ⟨ts, e, q⟩ := h; ⟨ts, k _ _ e hl, L2.Paired.mapP q fun _ _ z => k _ _ z (ne_of z ha (by intro w; cases w))⟩
theorem wn_some {r : Nat} {v : V} : ∀ {es : List Wn}, valV (wnKV es) (Sum.inl (r : Int) : Key) = some v → ∃ pre e post, es = pre ++ e :: post ∧ e.rd = r ∧ v = .ref e.ad
  | [], h => by cases h
  | e :: es, h => by
    by_cases q : e.rd = r
    · have z : valV (wnKV (e :: es)) (Sum.inl (r : Int) : Key) = some (.ref e.ad) := valV_pos (p := ((Sum.inl (e.rd : Int) : Key), V.ref e.ad)) (by show (Sum.inl (e.rd : Int) : Key) = _; rw [q])
      rw [z] at h
      cases h
      exact ⟨[], e, es, rfl, q, rfl⟩
    · have z : valV (wnKV (e :: es)) (Sum.inl (r : Int) : Key) = valV (wnKV es) (Sum.inl (r : Int) : Key) := valV_neg (p := ((Sum.inl (e.rd : Int) : Key), V.ref e.ad)) (fun w => q (Int.ofNat.inj (Sum.inl.inj w)))
      rw [z] at h
      obtain ⟨pre, e', post, rfl, h1, h2⟩ := wn_some h
      exact ⟨e :: pre, e', post, rfl, h1, h2⟩
theorem wn_none {r : Nat} : ∀ {es : List Wn}, valV (wnKV es) (Sum.inl (r : Int) : Key) = none → ∀ e ∈ es, e.rd ≠ r
  | [], _, e, he => nomatch he
  | e0 :: es, h, e, he => by
    by_cases q : e0.rd = r
    · have z : valV (wnKV (e0 :: es)) (Sum.inl (r : Int) : Key) = some (.ref e0.ad) := valV_pos (p := ((Sum.inl (e0.rd : Int) : Key), V.ref e0.ad)) (by show (Sum.inl (e0.rd : Int) : Key) = _; rw [q])
      rw [z] at h
      cases h
    · have z : valV (wnKV (e0 :: es)) (Sum.inl (r : Int) : Key) = valV (wnKV es) (Sum.inl (r : Int) : Key) := valV_neg (p := ((Sum.inl (e0.rd : Int) : Key), V.ref e0.ad)) (fun w => q (Int.ofNat.inj (Sum.inl.inj w)))
      rw [z] at h
      rcases List.mem_cons.mp he with rfl | he
      · exact q
      · exact wn_none h e he
theorem wn_get {es : List Wn} (nd : (es.map (·.rd)).Nodup) {e : Wn} (he : e ∈ es) : valV (wnKV es) (Sum.inl (e.rd : Int) : Key) = some (.ref e.ad) := by
  cases q : valV (wnKV es) (Sum.inl (e.rd : Int) : Key) with
  | none => exact absurd rfl (wn_none q e he)
  | some v =>
    obtain ⟨pre, e', post, rfl, h1, rfl⟩ := wn_some q
    rcases List.mem_append.mp he with m | m
    · rw [List.map_append, List.map_cons] at nd
      have := (List.nodup_append.mp nd).2.2 e.rd (List.mem_map.mpr ⟨e, m, rfl⟩) e'.rd List.mem_cons_self
      exact absurd h1.symm this
    · rcases List.mem_cons.mp m with rfl | m
      · rfl
      · rw [List.map_append, List.map_cons] at nd
        have := (List.nodup_cons.mp (List.nodup_append.mp nd).2.1).1
        exact absurd (List.mem_map.mpr ⟨e, m, h1.symm⟩) this
/-- letter n, lying somewhere since s, wants to go on road r -/
def Wants (sps : List Spt) (lts : List Lt) (tf : Str → Str → Option Nat) (s : Int) (n r : Nat) : Prop := ∃ h t, sps[n]? = some (.ah h s) ∧ lts[n]? = some t ∧ tf h t.gl = some r
structure WnOk (sps : List Spt) (lts : List Lt) (tf : Str → Str → Option Nat) (k : Nat) (es : List Wn) : Prop where
  nd : (es.map (·.rd)).Nodup
  few : es.length ≤ k
  ne : ∀ e ∈ es, e.xs ≠ []
  len : ∀ e ∈ es, e.xs.length ≤ k
  wants : ∀ e ∈ es, ∀ x ∈ e.xs, x.2 < k ∧ Wants sps lts tf x.1 x.2 e.rd
  once : ∀ e ∈ es, (e.xs.map (·.2)).Nodup
theorem WnOk.more {sps : List Spt} {lts : List Lt} {tf : Str → Str → Option Nat} {k : Nat} {es : List Wn} (w : WnOk sps lts tf k es) : WnOk sps lts tf (k + 1) es :=
  ⟨w.nd, Nat.le_succ_of_le w.few, w.ne, fun e he => Nat.le_succ_of_le (w.len e he), fun e he x hx => ⟨Nat.lt_succ_of_lt (w.wants e he x hx).1, (w.wants e he x hx).2⟩, w.once⟩
theorem WnOk.app {sps : List Spt} {lts : List Lt} {tf : Str → Str → Option Nat} {k : Nat} {pre post : List Wn} {e : Wn} (w : WnOk sps lts tf k (pre ++ e :: post)) {s : Int} (h : Wants sps lts tf s k e.rd) : WnOk sps lts tf (k + 1) (pre ++ ⟨e.rd, e.ad, e.xs ++ [(s, k)]⟩ :: post) := by
  have me : e ∈ pre ++ e :: post := List.mem_append_right _ List.mem_cons_self
  have split : ∀ {f : Wn}, f ∈ pre ++ ⟨e.rd, e.ad, e.xs ++ [(s, k)]⟩ :: post → f = ⟨e.rd, e.ad, e.xs ++ [(s, k)]⟩ ∨ f ∈ pre ++ e :: post := fun {f} m => by
    rcases List.mem_append.mp m with m | m
    · exact .inr (List.mem_append_left _ m)
    · rcases List.mem_cons.mp m with m | m
      · exact .inl m
      · exact .inr (List.mem_append_right _ (List.mem_cons_of_mem _ m))
  have nd := w.nd
  have few := w.few
  rw [List.map_append, List.map_cons] at nd
  rw [List.length_append, List.length_cons] at few
  refine ⟨by rw [List.map_append, List.map_cons]; exact nd, by rw [List.length_append, List.length_cons]; omega, fun f m => ?_, fun f m => ?_, fun f m x hx => ?_, fun f m => ?_⟩
  · rcases split m with rfl | m
    · simp
    · exact w.ne f m
  · rcases split m with rfl | m
    · rw [List.length_append]
      have := w.len e me
      simp only [List.length_cons, List.length_nil]
      omega
    · exact Nat.le_succ_of_le (w.len f m)
  · rcases split m with rfl | m
    · rcases List.mem_append.mp hx with hx | hx
      · have := w.wants e me x hx
        exact ⟨Nat.lt_succ_of_lt this.1, this.2⟩
      · rw [List.mem_singleton.mp hx]
        exact ⟨Nat.lt_succ_self _, h⟩
    · have := w.wants f m x hx
      exact ⟨Nat.lt_succ_of_lt this.1, this.2⟩
  · rcases split m with rfl | m
    · rw [List.map_append]
      refine List.nodup_append.mpr ⟨w.once e me, by simp, fun a ha b hb => ?_⟩
      obtain ⟨x, hx, rfl⟩ := List.mem_map.mp ha
      have hb' : b = k := by simpa using hb
      have := (w.wants e me x hx).1
      omega
    · exact w.once f m
theorem WnOk.new {sps : List Spt} {lts : List Lt} {tf : Str → Str → Option Nat} {k r : Nat} {q : Addr} {es : List Wn} (w : WnOk sps lts tf k es) (hn : ∀ e ∈ es, e.rd ≠ r) {s : Int} (h : Wants sps lts tf s k r) : WnOk sps lts tf (k + 1) (es ++ [⟨r, q, [(s, k)]⟩]) := by
  have split : ∀ {f : Wn}, f ∈ es ++ [⟨r, q, [(s, k)]⟩] → f = ⟨r, q, [(s, k)]⟩ ∨ f ∈ es := fun {f} m => by
    rcases List.mem_append.mp m with m | m
    · exact .inr m
    · exact .inl (List.mem_singleton.mp m)
  refine ⟨?_, by rw [List.length_append]; have := w.few; simp only [List.length_cons, List.length_nil]; omega, fun f m => ?_, fun f m => ?_, fun f m x hx => ?_, fun f m => ?_⟩
  · rw [List.map_append]
    refine List.nodup_append.mpr ⟨w.nd, by simp, fun a ha b hb => ?_⟩
    obtain ⟨e, he, rfl⟩ := List.mem_map.mp ha
    have hb' : b = r := by simpa using hb
    rw [hb']
    exact hn e he
  · rcases split m with rfl | m
    · simp
    · exact w.ne f m
  · rcases split m with rfl | m
    · show 1 ≤ k + 1
      omega
    · exact Nat.le_succ_of_le (w.len f m)
  · rcases split m with rfl | m
    · rw [List.mem_singleton.mp hx]
      exact ⟨Nat.lt_succ_self _, h⟩
    · have := w.wants f m x hx
      exact ⟨Nat.lt_succ_of_lt this.1, this.2⟩
  · rcases split m with rfl | m
    · simp
    · exact w.once f m
/-- the wanted in the heap H: d the dict; H0 knew none of its lists -/
structure WnAt (H0 H : Hp) (d : Addr) (es : List Wn) : Prop where
  same : Same H0 H
  dn : H0 d = none
  dk : H d = some (.dK (wnKV es))
  ps : ∀ e ∈ es, PairsAt H e.ad e.xs
  new : ∀ e ∈ es, H0 e.ad = none
  ads : (es.map (·.ad)).Nodup
theorem WnAt.mono {H0 H H' : Hp} {d : Addr} {es : List Wn} (w : WnAt H0 H d es) (s : Same H H') : WnAt H0 H' d es := ⟨w.same.trans s, w.dn, s _ _ w.dk, fun e he => (w.ps e he).mono s, w.new, w.ads⟩
section
variable {P : Program} {w : World} {K : PySem.W.Frag} {mg : Str → Option Value} {base : Heap} {c : Cs}
def spGoing (c : Cs) : Sp := fun vs H Q _ => ∃ (lp sp wp np : Addr) (las sas : List Addr) (lts : List Lt) (sps : List Spt) (dx pn pt : Addr) (kvs : List (List Key × V)) (tf : Str → Str → Option Nat) (n : Nat), vs = [.ref lp, .ref sp, .ref wp, .ref np] ∧
  H lp = some (.lst (las.map V.ref)) ∧ Paired (LtAt H) las lts ∧ H sp = some (.lst (sas.map V.ref)) ∧ Paired (SptAt c H) sas sps ∧ H wp = some (.ins c.ways dx (waysF (.ref pn) (.ref pt))) ∧ H pt = some (.dT kvs) ∧ RepT kvs tf ∧
  H np = some (.lst ((List.range n).map nat)) ∧ n ≤ 40 ∧ n = lts.length ∧ n = sps.length ∧ ∀ H' d es, WnAt H H' d es → WnOk sps lts tf n es → Q (.ref d) H'
theorem ok_going (T : Txt K mg c) : C8.Cal P w K mg base 1 "going" (spGoing c) [] := by
  refine cal_of T.d_going sc_going (fun _ _ _ _ _ _ us hl => match us, hl with | [_, _, _, _], _ => rfl) (fun vs H Q E h => ?_) (fun f cdv A outer s H vs Q E hr h => ?_)
  · obtain ⟨lp, sp, wp, np, las, sas, lts, sps, dx, pn, pt, kvs, tf, n, rfl, _⟩ := h
    rfl
  · obtain ⟨lp, sp, wp, np, las, sas, lts, sps, dx, pn, pt, kvs, tf, n, rfl, hlp, pl, hsp, ps, hw, ht, rep, hnp, n40, nl, ns, k⟩ := h
    have hu := hu_of hr
    refine ⟨_, (pss_cons (ps_set (i := 4) sc_going.nd rfl (Or.inl rfl) pe_dnewK)
  (pss_cons (ps_for PassesOwn.never rfl (pi_list (pv 3)) (pg_name (i := 5) sc_going.nd rfl (Or.inl rfl)) (pss_cons (ps_set (i := 6) sc_going.nd rfl (Or.inl rfl) (pe_ix ix_list (pv 1) (pv 5) (fun _ _ => rfl)))
  (pss_one (ps_if (pt_val (pe_callB call_isi (by rfl) T.b_isinstance (by decide +kernel) (pa_cons (pv 6) (pa_cons (C8.pe_gc rfl T.c_AtHouse) pa_nil)))) (pss_cons (ps_set (i := 7) sc_going.nd rfl (Or.inl rfl) (pe_dget1 hu (pe_fld (pv 2) rfl) (pe_tup (pa_cons (pe_fld (pv 6) rfl) (pa_cons (pe_ix ix_tup (pe_ix ix_list (pv 0) (pv 5) (fun _ _ => rfl)) pe_int (fun _ _ => rfl)) pa_nil))) ⟨rfl, rfl, rfl, rfl⟩))
  (pss_one (ps_if (pt_cmpR op_notN (pv 7) pe_non (nomark _)) (pss_one (ps_expr (pe_bm PySem.F.plainAttrs_list PySem.F.slot_list_append PySem.F.type_list_append mt_append (pe_dsetd (pv 4) (pv 7) (pe_lst pa_nil) ⟨rfl, rfl, rfl, rfl⟩) (pa_cons (pe_tup (pa_cons (pe_fld (pv 6) rfl) (pa_cons (pv 5) pa_nil))) pa_nil)))) pss_nil))) pss_nil))))
  (pss_one (ps_ret (pv 4))))), ?_⟩
    intro d hd
    refine ⟨_, rfl, np, rfl, ⟨_, SqL.of (Same.new hd _ _ hnp)⟩, ?_⟩
    refine for_list (K := K) (xs := (List.range n).map nat) (fun i σ H' => ∃ (es : List Wn) (o5 o6 o7 : Option V), σ = [some (.ref lp), some (.ref sp), some (.ref wp), some (.ref np), some (.ref d), o5, o6, o7] ∧ WnAt H H' d es ∧ WnOk sps lts tf i es)
      ⟨[], _, _, _, rfl, ⟨Same.new hd, hd, upd_same, (fun e he => nomatch he), (fun e he => nomatch he), List.nodup_nil⟩, ⟨List.nodup_nil, Nat.zero_le _, (fun e he => nomatch he), (fun e he => nomatch he), (fun e he => nomatch he), (fun e he => nomatch he)⟩⟩
      (fun i σ H' _ ⟨_, _, _, _, _, w, _⟩ => SqL.of (w.same _ _ hnp)) ?_ ?_
    · rintro i x σ H1 hi ⟨es, o5, o6, o7, rfl, W, ok⟩
      obtain ⟨m, hm, rfl⟩ := map_of hi
      have lm := lt_of_at hm
      rw [List.length_range] at lm
      have em : m = i := by
        rw [List.getElem?_range lm] at hm
        exact (Option.some.inj hm).symm
      subst em
      obtain ⟨sp0, hs0⟩ := at_of_lt (show m < sps.length by omega)
      obtain ⟨lt0, hl0⟩ := at_of_lt (show m < lts.length by omega)
      obtain ⟨sa, hsa, psa⟩ := Paired.at_r ps hs0
      obtain ⟨la, hla, pla⟩ := Paired.at_r pl hl0
      have sAt : SptAt c H1 sa sp0 := psa.mono W.same
      have lAt := pla.mono W.same
      -- spot = stood[number]
      refine sq_set (σ := [some (.ref lp), some (.ref sp), some (.ref wp), some (.ref np), some (.ref d), some (nat m), o6, o7]) (v_ixL (i := (m : Int)) (SqL.of (W.same _ _ hsp)) (val_var rfl) (val_var rfl) (atI_nat (refs_at hsa))) ?_
      by_cases hk : ∃ h s, sp0 = .ah h s
      · obtain ⟨h, s, rfl⟩ := hk
        refine st_yes (Ans.to (ans_val (val_isiK T .ah sAt (val_var rfl))) rfl) ?_
        obtain ⟨dxs, hsx⟩ := id sAt
        -- road = ways.told.get((spot.at, letters[number][2]))
        refine ⟨_, rfl, wp, c.ways, dx, _, _, rfl, W.same _ _ hw, T.cl_Ways, T.n_Ways_told, lk_Ways_told, pt, rfl, .inr ⟨_, .inl (W.same _ _ ht)⟩, ?_⟩
        refine tup_go (cons_go (.str h) (val_fld (val_var rfl) hsx T.cl_AtHouse T.n_AtHouse_at lk_AtHouse_at) ?_)
        refine cons_go (.str lt0.gl) (v_ixTn (j := 2) (SqT.of lAt) (v_ixL (i := (m : Int)) (SqL.of (W.same _ _ hlp)) (val_var rfl) (val_var rfl) (atI_nat (refs_at hla))) rfl) ?_
        refine ⟨by show 2 ≤ sizeLine; decide, fun u hu' => ?_⟩
        have sU : Same H1 (upd H1 u (.tup [.str h, .str lt0.gl])) := Same.new hu'
        have W1 := W.mono sU
        refine ⟨_, DGet.t (k := [Sum.inr h, Sum.inr lt0.gl]) (W1.same _ _ ht) upd_same, ?_⟩
        rw [rep h lt0.gl]
        cases hr : tf h lt0.gl with
        | none =>
          refine st_no (Ans.to (ans_test (v_notN (val_var rfl))) rfl) ?_
          exact ⟨es, _, _, _, rfl, W1, ok.more⟩
        | some r =>
          refine st_yes (Ans.to (ans_test (v_notN (val_var rfl))) rfl) ?_
          have wnt : Wants sps lts tf s m r := ⟨h, lt0, hs0, hl0, hr⟩
          generalize hH2 : upd H1 u (.tup [.str h, .str lt0.gl]) = H2 at W1 sU
          have hsx2 : H2 sa = some (.ins (c.k Kd.ah) dxs (Spt.ah h s).fs) := sU _ _ hsx
          -- found.setdefault(road, [])
          refine ⟨_, rfl, d, rfl, .inl ⟨_, .inl W1.dk⟩, _, rfl, Nat.zero_le _, fun q hq => ?_⟩
          have sq : Same H2 (upd H2 q (.lst [])) := Same.new hq
          have W2 := W1.mono sq
          have elen := ok.few
          refine ⟨_, (Sum.inl (r : Int) : Key), W2.dk, rfl, sz_lt (by unfold wnKV; rw [List.length_map]; omega), fun v hv => ?_, fun hv => ?_⟩
          · -- the list is there
            obtain ⟨pre, e, post, rfl, rfl, rfl⟩ := wn_some hv
            have me : e ∈ pre ++ e :: post := List.mem_append_right _ List.mem_cons_self
            obtain ⟨ts, hts, pts⟩ := W2.ps e me
            refine ⟨.inl ⟨rfl, _, SqL.of hts⟩, ?_⟩
            refine tup_go (cons_go (.int s) (val_fld (val_var rfl) (sq _ _ hsx2) T.cl_AtHouse T.n_AtHouse_since lk_AtHouse_since) ?_)
            refine ⟨_, rfl, by show 2 ≤ sizeLine; decide, fun t ht' => ?_⟩
            have st : Same (upd H2 q (.lst [])) (upd (upd H2 q (.lst [])) t (.tup [.int s, nat m])) := Same.new ht'
            have W3 := W2.mono st
            have hts3 := st _ _ hts
            have tl := pts.length
            have xl := ok.len e me
            refine ⟨e.ad, _, _, rfl, rfl, hts3, sz_lt (by rw [List.length_map]; omega), ?_⟩
            have ht3 : (upd (upd H2 q (.lst [])) t (.tup [.int s, nat m])) t = some (.tup [.int s, nat m]) := upd_same
            generalize hH3 : upd (upd H2 q (.lst [])) t (.tup [.int s, nat m]) = H3 at W3 hts3 ht3 st
            have tne : t ≠ e.ad := ne_of ht3 hts3 (by intro z; cases z)
            have kp : ∀ b o, H3 b = some o → b ≠ e.ad → (upd H3 e.ad (.lst (ts.map V.ref ++ [.ref t]))) b = some o := fun b o z hb => by rw [upd_ne hb]; exact z
            refine ⟨pre ++ ⟨e.rd, e.ad, e.xs ++ [(s, m)]⟩ :: post, _, _, _, rfl, ⟨W3.same.mut (W3.new e me), W3.dn, ?_, fun f hf => ?_, fun f hf => ?_, ?_⟩, ok.app wnt⟩
            · rw [upd_ne (ne_of W3.dk hts3 (by intro z; cases z)), W3.dk]
              unfold wnKV
              rw [List.map_append, List.map_append, List.map_cons, List.map_cons]
            · have ads := W3.ads
              rw [List.map_append, List.map_cons] at ads
              obtain ⟨_, a2, a3⟩ := List.nodup_append.mp ads
              rcases List.mem_append.mp hf with m1 | m1
              · exact PairsAt.keep (a3 f.ad (List.mem_map.mpr ⟨f, m1, rfl⟩) e.ad List.mem_cons_self) hts3 kp (W3.ps f (List.mem_append_left _ m1))
              · rcases List.mem_cons.mp m1 with rfl | m1
                · refine ⟨ts ++ [t], ?_, ?_⟩
                  · rw [upd_same, List.map_append]
                    rfl
                  · refine Paired.app (L2.Paired.mapP pts fun a x z => kp a _ (st _ _ z) (ne_of (st _ _ z) hts3 (by intro z'; cases z'))) (.cons ?_ .nil)
                    rw [upd_ne tne]
                    exact ht3
                · exact PairsAt.keep (fun z => (List.nodup_cons.mp a2).1 (by rw [← z]; exact List.mem_map.mpr ⟨f, m1, rfl⟩)) hts3 kp (W3.ps f (List.mem_append_right _ (List.mem_cons_of_mem _ m1)))
            · rcases List.mem_append.mp hf with m1 | m1
              · exact W3.new f (List.mem_append_left _ m1)
              · rcases List.mem_cons.mp m1 with rfl | m1
                · exact W3.new e me
                · exact W3.new f (List.mem_append_right _ (List.mem_cons_of_mem _ m1))
            · have ads := W3.ads
              rw [List.map_append, List.map_cons] at ads ⊢
              exact ads
          · -- a new list
            have hnr := wn_none hv
            have dq : d ≠ q := ne_of_none W1.dk hq
            have hq0 : H q = none := W1.same.free hq
            refine ⟨.inl ⟨rfl, _, SqL.of (by rw [upd_ne dq.symm]; exact upd_same)⟩, ?_⟩
            have kd : ∀ b o, H2 b = some o → b ≠ d → (upd (upd H2 q (.lst [])) d (.dK (putK (wnKV es) (Sum.inl (r : Int) : Key) (.ref q)))) b = some o := fun b o z hb => by
              rw [upd_ne hb, upd_ne (ne_of_none z hq)]
              exact z
            refine tup_go (cons_go (.int s) (val_fld (val_var rfl) (kd _ _ hsx2 (ne_of hsx2 W1.dk (by intro z; cases z))) T.cl_AtHouse T.n_AtHouse_since lk_AtHouse_since) ?_)
            refine ⟨_, rfl, by show 2 ≤ sizeLine; decide, fun t ht' => ?_⟩
            have dt : d ≠ t := fun z => by rw [← z, upd_same] at ht'; cases ht'
            have qt : q ≠ t := fun z => by rw [← z, upd_ne dq.symm, upd_same] at ht'; cases ht'
            have ht2 : H2 t = none := by rw [upd_ne dt.symm, upd_ne qt.symm] at ht'; exact ht'
            refine ⟨q, _, _, rfl, rfl, (by rw [upd_ne qt, upd_ne dq.symm, upd_same]), (by show 0 < sizeLine; decide), ?_⟩
            have kp : ∀ b o, H2 b = some o → b ≠ d → (upd (upd (upd (upd H2 q (.lst [])) d (.dK (putK (wnKV es) (Sum.inl (r : Int) : Key) (.ref q)))) t (.tup [.int s, nat m])) q (.lst ([] ++ [.ref t]))) b = some o := fun b o z hb => by
              rw [upd_ne (ne_of_none z hq), upd_ne (ne_of_none z ht2)]
              exact kd b o z hb
            refine ⟨es ++ [⟨r, q, [(s, m)]⟩], _, _, _, rfl, ⟨fun b o z => kp b o (W1.same _ _ z) (ne_of_none z W1.dn), W1.dn, ?_, fun f hf => ?_, fun f hf => ?_, ?_⟩, ok.new hnr wnt⟩
            · rw [upd_ne dq, upd_ne dt, upd_same, putK_new _ hv]
              unfold wnKV
              rw [List.map_append]
              rfl
            · rcases List.mem_append.mp hf with m1 | m1
              · obtain ⟨ts, h1, h2⟩ := W1.ps f m1
                exact ⟨ts, kp _ _ h1 (ne_of h1 W1.dk (by intro z; cases z)), L2.Paired.mapP h2 fun a x z => kp _ _ z (ne_of z W1.dk (by intro z'; cases z'))⟩
              · rw [List.mem_singleton.mp m1]
                refine ⟨[t], by rw [upd_same] <;> rfl, .cons ?_ .nil⟩
                rw [upd_ne qt.symm, upd_same]
            · rcases List.mem_append.mp hf with m1 | m1
              · exact W1.new f m1
              · rw [List.mem_singleton.mp m1]
                exact hq0
            · rw [List.map_append]
              refine List.nodup_append.mpr ⟨W1.ads, by simp, fun a ha b hb => ?_⟩
              obtain ⟨f, hf, rfl⟩ := List.mem_map.mp ha
              have hb' : b = q := by simpa using hb
              rw [hb']
              obtain ⟨ts, h1, _⟩ := W1.ps f hf
              exact ne_of_none h1 hq
      · refine st_no (Ans.to (ans_val (val_isiK T .ah sAt (val_var rfl))) ?_) ?_
        · cases sp0 with
          | ah h s => exact absurd ⟨h, s, rfl⟩ hk
          | ny => rfl
          | rd _ _ => rfl
          | hm _ => rfl
        · exact ⟨es, _, _, _, rfl, W, ok.more⟩
    · rintro σ H1 ⟨es, o5, o6, o7, rfl, W, ok⟩
      rw [List.length_map, List.length_range] at ok
      exact st_ret (val_var rfl) (k H1 d es W ok)
end
end PR
set_option Elab.async false
set_option maxRecDepth 100000
set_option linter.all false
set_option maxHeartbeats 1000000
/-! The bags of one turn, and where the letters stand behind them. -/
namespace PR
open PySem PySem.Spec PyProof.Rows L2
theorem Bg_mut {H : Hp} {p a : Addr} {u v : List V} {b : Bg} (hp : H p = some (.lst u)) (h : BgAt H a b) : BgAt (upd H p (.lst v)) a b := by
  obtain ⟨q, e1, e2⟩ := h
  refine ⟨q, ?_, ?_⟩
  · rw [upd_ne (ne_of e1 hp (by intro z; cases z))]; exact e1
  · rw [upd_ne (ne_of e2 hp (by intro z; cases z))]; exact e2
/-- the two ints of a pair -/
def kOf (H : Hp) : V → Int × Int
  | .ref t => match H t with
    | some (.tup [.int a, .int b]) => (a, b)
    | _ => (0, 0)
  | _ => (0, 0)
theorem kOf_at {H : Hp} {t : Addr} {a b : Int} (h : H t = some (.tup [.int a, .int b])) : kOf H (.ref t) = (a, b) := by
  show (match H t with
    | some (.tup [.int a, .int b]) => (a, b)
    | _ => (0, 0)) = _
  rw [h]
theorem pairs_k {H : Hp} : ∀ {ts : List Addr} {xs : List (Int × Nat)}, Paired (fun t (x : Int × Nat) => H t = some (.tup [.int x.1, nat x.2])) ts xs → (ts.map V.ref).map (fun v => (kOf H v).2) = (xs.map (·.2)).map fun n : Nat => (n : Int)
  | _, _, .nil => rfl
  | _, _, .cons h r => by
    rw [List.map_cons, List.map_cons, List.map_cons, List.map_cons, pairs_k r, kOf_at h]
theorem nats_of {ws : List Nat} {ps ns' : List Int} {m : Nat} (nd : ws.Nodup) (hp : ps.Perm (ws.map fun n : Nat => (n : Int))) (h : ns'.Perm (ps.take m)) (hs : ns'.Pairwise (· ≤ ·)) :
    ∃ ns : List Nat, ns' = ns.map (fun n : Nat => (n : Int)) ∧ ns.Pairwise (· < ·) ∧ (∀ n ∈ ns, n ∈ ws) ∧ ns.length = (ps.take m).length := by
  have nd1 : (ws.map fun n : Nat => (n : Int)).Nodup := by
    refine List.Pairwise.map _ (fun a b hab e => hab (Int.ofNat.inj e)) nd
  have nd2 : ns'.Nodup := h.symm.nodup ((hp.symm.nodup nd1).sublist (List.take_sublist _ _))
  have mem : ∀ z ∈ ns', ∃ n ∈ ws, (n : Int) = z := fun z hz => by
    have := hp.mem_iff.mp (List.mem_of_mem_take (h.mem_iff.mp hz))
    obtain ⟨n, hn, e⟩ := List.mem_map.mp this
    exact ⟨n, hn, e⟩
  have e : ns' = (ns'.map Int.toNat).map (fun n : Nat => (n : Int)) := by
    rw [List.map_map]
    exact ((List.map_congr_left (f := (fun n : Nat => (n : Int)) ∘ Int.toNat) (g := id) fun z hz => by
      obtain ⟨n, _, rfl⟩ := mem z hz
      rfl).trans (List.map_id _)).symm
  have lt : ns'.Pairwise (· < ·) := (List.pairwise_and_iff.mpr ⟨hs, nd2⟩).imp fun ⟨a, b⟩ => by omega
  refine ⟨ns'.map Int.toNat, e, ?_, fun n hn => ?_, by rw [List.length_map, h.length_eq]⟩
  · rw [List.pairwise_map]
    refine lt.imp_of_mem fun {a b} ha hb hab => ?_
    obtain ⟨n, _, rfl⟩ := mem a ha
    obtain ⟨k, _, rfl⟩ := mem b hb
    simp only [Int.toNat_natCast]
    omega
  · obtain ⟨z, hz, rfl⟩ := List.mem_map.mp hn
    obtain ⟨k, hk, rfl⟩ := mem z hz
    simpa using hk
theorem cut_some (xs : List V) (i : Int) (h : 0 ≤ i) : cutV xs none (some i) = xs.take i.toNat := by
  show (xs.drop 0).take (HT.sIx xs.length xs.length (some i) - 0) = _
  obtain ⟨k, rfl⟩ : ∃ k : Nat, i = k := ⟨i.toNat, by omega⟩
  rw [HT.sIx_nat, List.drop_zero, Nat.sub_zero, Int.toNat_natCast]
  by_cases q : k ≤ xs.length
  · rw [Nat.min_eq_left q]
  · rw [Nat.min_eq_right (by omega), List.take_of_length_le (Nat.le_refl _), List.take_of_length_le (by omega)]
/-- bag b comes from the wanted -/
def BagFrom (N : Nt) (es : List Wn) (t : Int) (b : Bg) : Prop := b.tn = t ∧ ∃ e ∈ es, ∃ l, e.rd = b.rd ∧ N.lines[b.rd]? = some l ∧ b.ns ≠ [] ∧ b.ns.Pairwise (· < ·) ∧ (b.ns.length : Int) ≤ l.rm ∧ ∀ n ∈ b.ns, n ∈ e.xs.map (·.2)
structure WnS (N : Nt) (H : Hp) (es : List Wn) : Prop where
  nd : (es.map (·.rd)).Nodup
  few : es.length ≤ 40
  one : ∀ e ∈ es, PairsAt H e.ad e.xs ∧ e.xs ≠ [] ∧ e.xs.length ≤ 40 ∧ (e.xs.map (·.2)).Nodup ∧ ∃ l, N.lines[e.rd]? = some l ∧ 1 ≤ l.rm
section
variable {P : Program} {w : World} {K : PySem.W.Frag} {mg : Str → Option Value} {base : Heap} {c : Cs}
def spBags (c : Cs) : Sp := fun vs H Q _ => ∃ (p d : Addr) (N : Nt) (es : List Wn) (t : Int), vs = [.ref p, .ref d, .int t] ∧ NetAt c H p N ∧ H d = some (.dK (wnKV es)) ∧ WnS N H es ∧
  ∀ H' pb qs bs, Same H H' → H pb = none → H' pb = some (.lst (qs.map V.ref)) → Paired (BgAt H') qs bs → (∀ b ∈ bs, BagFrom N es t b) → bs.Pairwise (fun a b => a.rd < b.rd) → bs.length ≤ 40 → Q (.ref pb) H'
theorem ok_bags_of (T : Txt K mg c) : C8.Cal P w K mg base 2 "bags_of" (spBags c) [] := by
  refine cal_of T.d_bags_of sc_bags_of (fun _ _ _ _ _ _ us hl => match us, hl with | [_, _, _], _ => rfl) (fun vs H Q E h => ?_) (fun f cdv A outer s H vs Q E hr h => ?_)
  · obtain ⟨p, d, N, es, t, rfl, _⟩ := h
    rfl
  · obtain ⟨p, d, N, es, t, rfl, hN, hd, wn, k⟩ := h
    have hu := hu_of hr
    have T_Net_road := ok_Net_road (P := P) (w := w) (base := base) T
    refine ⟨_, (pss_cons (ps_set (i := 3) sc_bags_of.nd rfl (Or.inl rfl) (pe_lst pa_nil))
  (pss_cons (ps_for PassesOwn.never rfl (pi_list (pe_callB (call_sortedDI rfl) (by rfl) T.b_sorted (by decide +kernel) (pa_cons (pv 1) pa_nil))) (pg_name (i := 4) sc_bags_of.nd rfl (Or.inl rfl)) (pss_cons (ps_set (i := 5) sc_bags_of.nd rfl (Or.inl rfl) (pe_slice sl_list (pe_callB cr_sortedP (by rfl) T.b_sorted (by decide +kernel) (pa_cons (pe_dget hu (pv 1) (pv 4) (fun _ _ => rfl)) pa_nil)) po_none (po_some (pe_ix ix_tup (C8.pe_mt T_Net_road hr (by decide) (pv 0) (pa_cons (pv 4) pa_nil)) pe_int (fun _ _ => rfl)))))
  (pss_one (ps_expr (pe_bm PySem.F.plainAttrs_list PySem.F.slot_list_append PySem.F.type_list_append mt_append (pv 3) (pa_cons (pe_tup (pa_cons (pv 2) (pa_cons (pv 4) (pa_cons (pe_callTy call_tuple_of (by rfl) T.b_tuple (by decide +kernel) (pa_cons (pe_callB cr_sortedI (by rfl) T.b_sorted (by decide +kernel) (pa_cons (pe_lc (own := [("since", 6), ("number", 7)]) rfl sc_bags_of.nd (pi_list (pv 5)) (blkOk_by (own := [("since", 6), ("number", 7)]) (N := N_bags_of) (sc := defScope s_bags_of) (by decide +kernel)) (fun _ _ _ _ _ => by exact (pg_tupK (K := K) 2 rfl rfl (pgs_cons (pg_name (i := 6) sc_bags_of.nd rfl (Or.inl rfl)) (pgs_cons (pg_name (i := 7) sc_bags_of.nd rfl (Or.inl rfl)) pgs_nil)))) (fun _ _ _ _ _ => by exact pts_nil) (fun _ _ _ _ _ => by exact (pv 7))) pa_nil)) pa_nil)) pa_nil)))) pa_nil))))))
  (pss_one (ps_ret (pv 3))))), ?_⟩
    refine ⟨by show 0 ≤ sizeLine; decide, fun pb hpb => ?_⟩
    have s1 : Same H (upd H pb (.lst [])) := Same.new hpb
    have hpb1 : (upd H pb (.lst [])) pb = some (.lst []) := upd_same
    generalize upd H pb (.lst []) = H1 at s1 hpb1
    refine ⟨_, rfl, d, wnKV es, es.map fun e => (e.rd : Int), rfl, .inl (s1 _ _ hd), ?_, ?_, fun ys sl hys hle hsl => ⟨sl, rfl, ⟨_, SqL.of upd_same⟩, ?_⟩⟩
    · unfold wnKV
      rw [List.map_map, List.map_map]
      rfl
    · rw [List.length_map]
      have := wn.few
      omega
    obtain ⟨rds, er, hlt, hin, hlen⟩ := nats_of (ps := es.map fun e => (e.rd : Int)) (m := es.length) wn.nd (by rw [List.map_map]; exact List.Perm.refl _) (by rw [List.take_of_length_le (by rw [List.length_map]; exact Nat.le_refl _)]; exact hys) hle
    rw [List.length_take, List.length_map] at hlen
    have s2 : Same H1 (upd H1 sl (.lst (ys.map V.int))) := Same.new hsl
    have hsl2 : (upd H1 sl (.lst (ys.map V.int))) sl = some (.lst (rds.map nat)) := by rw [upd_same, er, List.map_map] <;> rfl
    generalize upd H1 sl (.lst (ys.map V.int)) = H2 at s2 hsl2
    obtain ⟨G, hG⟩ : ∃ G, G = hid H2 pb := ⟨_, rfl⟩
    have gp : G pb = none := by rw [hG]; exact hid_same
    have sG : Same G H2 := by rw [hG]; exact hid_sub
    have s0 : Same H G := by rw [hG]; exact hid_of (s1.trans s2) hpb
    have gsl : G sl = some (.lst (rds.map nat)) := by rw [hG, hid_ne (ne_of_none hpb1 hsl).symm]; exact hsl2
    have lrd : rds.length ≤ 40 := by
      have := hys.length_eq
      rw [List.length_map] at this
      have := wn.few
      omega
    refine for_list (K := K) (xs := rds.map nat) (fun i σ H' => ∃ (qs : List Addr) (bs : List Bg) (o4 o5 : Option V), σ = [some (.ref p), some (.ref d), some (.int t), some (.ref pb), o4, o5, none, none] ∧ Same G H' ∧ H' pb = some (.lst (qs.map V.ref)) ∧ Paired (BgAt H') qs bs ∧ (∀ b ∈ bs, BagFrom N es t b) ∧ bs.map (·.rd) = rds.take i)
      ⟨[], [], _, _, rfl, sG, s2 _ _ hpb1, .nil, (fun b hb => nomatch hb), rfl⟩ (fun i σ H' _ ⟨_, _, _, _, _, s, _⟩ => SqL.of (s _ _ gsl)) ?_ ?_
    · rintro i x σ H3 hi ⟨qs, bs, o4, o5, rfl, s3, hp3, pq, hbs, hmap⟩
      obtain ⟨r, hr0, rfl⟩ := map_of hi
      have li := lt_of_at hr0
      obtain ⟨e, he, her⟩ := List.mem_map.mp (hin r (List.mem_of_getElem? hr0))
      obtain ⟨hpa, hne, hxl, hnd, l, hl, hrm⟩ := wn.one e he
      have sH3 := s0.trans s3
      obtain ⟨ts, hts, pts⟩ := hpa.mono sH3
      -- some = sorted(wanted[road])[: ..]
      have gd : DGet H3 d (nat r) (some (.ref e.ad)) := by
        have z := wn_get wn.nd he
        rw [her] at z
        rw [← z]
        exact DGet.k (k := Sum.inl (r : Int)) (sH3 _ _ hd)
      refine vrun (.ref e.ad) (v_dget gd (val_var rfl) (val_var rfl)) ?_
      refine ⟨e.ad, _, rfl, SqL.of hts, fun x hx => ?_, fun ys' q5 hperm hq5 => ?_⟩
      · obtain ⟨u, hu', rfl⟩ := List.mem_map.mp hx
        obtain ⟨j, hj⟩ := List.mem_iff_getElem?.mp hu'
        obtain ⟨y, _, hy⟩ := Paired.at_l pts hj
        exact ⟨u, _, _, rfl, hy⟩
      have s4 : Same H3 (upd H3 q5 (.lst ys')) := Same.new hq5
      have h4 : (upd H3 q5 (.lst ys')) q5 = some (.lst ys') := upd_same
      generalize upd H3 q5 (.lst ys') = H4 at s4 h4
      have hN4 : NetAt c H4 p N := hN.mono (sH3.trans s4)
      obtain ⟨dn, an, al, n1, n2, n3⟩ := id hN4
      refine ⟨_, rfl, p, dn, _, rfl, n1, ln_Net_road, _, rfl, p, N, r, l, rfl, hN4, (by rw [← her]; exact hl), fun la hla => ⟨la, _, 3, .int l.rm, rfl, rfl, SqT.of hla, rfl, l.rm, rfl, q5, ys', rfl, SqL.of h4, fun q6 hq6 => ?_⟩⟩
      rw [cut_some _ _ (by omega)]
      generalize hm : l.rm.toNat = m
      have s5 : Same H4 (upd H4 q6 (.lst (ys'.take m))) := Same.new hq6
      have h5 : (upd H4 q6 (.lst (ys'.take m))) q6 = some (.lst (ys'.take m)) := upd_same
      generalize upd H4 q6 (.lst (ys'.take m)) = H5 at s5 h5
      -- bags.append((turn, road, tuple(sorted([ .. ]))))
      refine ⟨_, rfl, .inl ⟨rfl, _, SqL.of (s5 _ _ (s4 _ _ hp3))⟩, _, rfl, _, rfl, _, rfl, q6, rfl, ⟨_, SqL.of h5⟩, fun D hD => ?_⟩
      have kperm : (ys'.map fun v => (kOf H3 v).2).Perm ((e.xs.map (·.2)).map fun n : Nat => (n : Int)) := by
        rw [← pairs_k pts]
        exact hperm.map _
      have yat : ∀ x ∈ ys', ∃ u, x = .ref u ∧ H3 u = some (.tup [.int (kOf H3 x).1, .int (kOf H3 x).2]) := fun x hx => by
        obtain ⟨u, hu', rfl⟩ := List.mem_map.mp (hperm.mem_iff.mp hx)
        obtain ⟨j, hj⟩ := List.mem_iff_getElem?.mp hu'
        obtain ⟨y, _, hy⟩ := Paired.at_l pts hj
        refine ⟨u, rfl, ?_⟩
        rw [kOf_at hy]
        exact hy
      have ylen : ys'.length = e.xs.length := by rw [hperm.length_eq, List.length_map, pts.length]
      refine lc_list (xs := ys'.take m) (fun j H' => Same H5 H' ∧ H' D = some (.lst (((ys'.take j).map fun v => V.int (kOf H3 v).2)))) ⟨Same.new hD, upd_same⟩ (fun _ _ _ z => SqL.of (z.1 _ _ h5)) ?_ ?_
      · rintro j y H6 hj ⟨s6, d6⟩
        have lj := lt_of_at hj
        rw [List.length_take] at lj
        rw [List.getElem?_take_of_lt (by omega)] at hj
        obtain ⟨u, rfl, hu6⟩ := yat y (List.mem_of_getElem? hj)
        refine ⟨u, _, rfl, SqT.of (s6 _ _ (s5 _ _ (s4 _ _ hu6))), rfl, _, _, rfl, _, _, rfl, rfl, rfl, ?_⟩
        refine ⟨_, rfl, _, d6, sz_lt (by rw [List.length_map, List.length_take]; omega), s6.mut hD, ?_⟩
        rw [upd_same, take_snoc hj, List.map_append]
        rfl
      · rintro H6 ⟨s6, d6⟩
        have lm : (ys'.take m).length = min m ys'.length := List.length_take
        have ez : (ys'.take (ys'.take m).length).map (fun v => V.int (kOf H3 v).2) = ((ys'.map fun v => (kOf H3 v).2).take m).map V.int := by
          rw [lm, ← List.map_take, List.map_map]
          have : ys'.take (min m ys'.length) = ys'.take m := by rw [← List.take_take, List.take_length]
          rw [this]
          rfl
        rw [ez] at d6
        refine ⟨D, _, rfl, SqL.of d6, fun ns' q7 hpns hle7 hq7 => ?_⟩
        obtain ⟨ns, ens, nlt, nin, nlen⟩ := nats_of hnd kperm hpns hle7
        refine ⟨q7, _, rfl, .inl ⟨SqL.of upd_same, fun q8 hq8 => ?_⟩⟩
        have e7 : ns'.map V.int = ns.map nat := by rw [ens, List.map_map] <;> rfl
        rw [e7] at hq8 ⊢
        refine ⟨by show 3 ≤ sizeLine; decide, fun q9 hq9 => ?_⟩
        have s7 : Same H6 (upd H6 q7 (.lst (ns.map nat))) := Same.new hq7
        generalize upd H6 q7 (.lst (ns.map nat)) = H7 at s7 hq8 hq9 ⊢
        have s8 : Same H7 (upd H7 q8 (.tup (ns.map nat))) := Same.new hq8
        have h8 : (upd H7 q8 (.tup (ns.map nat))) q8 = some (.tup (ns.map nat)) := upd_same
        generalize upd H7 q8 (.tup (ns.map nat)) = H8 at s8 h8 hq9 ⊢
        have s9 : Same H8 (upd H8 q9 (.tup [.int t, nat r, .ref q8])) := Same.new hq9
        have h9 : (upd H8 q9 (.tup [.int t, nat r, .ref q8])) q9 = some (.tup [.int t, nat r, .ref q8]) := upd_same
        generalize hH9 : upd H8 q9 (.tup [.int t, nat r, .ref q8]) = H9 at s9 h9
        have s39 : Same H3 H9 := s4.trans (s5.trans (s6.trans (s7.trans (s8.trans s9))))
        have hp9 := s39 _ _ hp3
        have ql := pq.length
        have bl : bs.length = i := by
          have := congrArg List.length hmap
          rw [List.length_map, List.length_take] at this
          omega
        have hH9' : upd H8 q9 (.tup [.int t, nat r, .ref q8]) = H9 := hH9
        refine ⟨pb, qs.map V.ref, .ref q9, rfl, rfl, hp9, sz_lt (by rw [List.length_map]; omega), ?_⟩
        refine ⟨qs ++ [q9], bs ++ [⟨t, r, ns⟩], _, _, rfl, (s3.trans s39).mut gp, ?_, ?_, fun b hb => ?_, ?_⟩
        · rw [upd_same, List.map_append]
          rfl
        · exact Paired.app (L2.Paired.mapP pq fun a b z => Bg_mut hp9 (z.mono s39)) (.cons (Bg_mut hp9 ⟨q8, h9, s9 _ _ h8⟩) .nil)
        · rcases List.mem_append.mp hb with hb | hb
          · exact hbs b hb
          · rw [List.mem_singleton.mp hb]
            have nl : ns.length = min m e.xs.length := by rw [nlen, List.length_take, List.length_map, ylen]
            have xne : e.xs.length ≠ 0 := fun z => hne (List.length_eq_zero_iff.mp z)
            refine ⟨rfl, e, he, l, her, (by rw [← her]; exact hl), fun z => ?_, nlt, ?_, nin⟩
            · have : ns.length = 0 := congrArg List.length z
              omega
            · show (ns.length : Int) ≤ l.rm
              omega
        · rw [List.map_append, hmap, take_snoc hr0]
          rfl
    · rintro σ H3 ⟨qs, bs, o4, o5, rfl, s3, hp3, pq, hbs, hmap⟩
      rw [List.length_map, List.take_length] at hmap
      refine st_ret (val_var rfl) (k H3 pb qs bs (s0.trans s3) hpb hp3 pq hbs ?_ ?_)
      · have := hlt
        rw [← hmap, List.pairwise_map] at this
        exact this
      · have := congrArg List.length hmap
        rw [List.length_map] at this
        omega
end
end PR
set_option Elab.async false
set_option maxRecDepth 100000
set_option linter.all false
set_option maxHeartbeats 1000000
/-! Where the letters stand behind the bags of a turn. -/
namespace PR
open PySem PySem.Spec PyProof.Rows L2
theorem ix_in {many place : Nat} (inside : place < many) : ixN many (place : Int) = some place := by
  unfold ixN
  rw [if_pos (Int.natCast_nonneg place), if_pos (Int.ofNat_lt.mpr inside), Int.toNat_natCast]
def tnOf (N : Nt) (r : Nat) : Int := match N.lines[r]? with
  | some l => l.tn
  | none => 0
def left1 (r : Nat) (u : Int) (sps : List Spt) (ns : List Nat) : List Spt := ns.foldl (fun s n => s.set n (.rd r u)) sps
def leftM (N : Nt) (sps : List Spt) (bs : List Bg) : List Spt := bs.foldl (fun s b => left1 b.rd (b.tn + tnOf N b.rd) s b.ns) sps
theorem left1_len (r : Nat) (u : Int) : ∀ (ns : List Nat) (sps : List Spt), (left1 r u sps ns).length = sps.length
  | [], _ => rfl
  | n :: ns, sps => (left1_len r u ns (sps.set n (.rd r u))).trans List.length_set
theorem left1_snoc {r : Nat} {u : Int} {sps : List Spt} {ns : List Nat} {n : Nat} : left1 r u sps (ns ++ [n]) = (left1 r u sps ns).set n (.rd r u) := by
  unfold left1
  rw [List.foldl_append]
  rfl
theorem leftM_len (N : Nt) : ∀ (bs : List Bg) (sps : List Spt), (leftM N sps bs).length = sps.length
  | [], _ => rfl
  | b :: bs, sps => (leftM_len N bs _).trans (left1_len _ _ _ _)
theorem leftM_snoc {N : Nt} {sps : List Spt} {bs : List Bg} {b : Bg} : leftM N sps (bs ++ [b]) = left1 b.rd (b.tn + tnOf N b.rd) (leftM N sps bs) b.ns := by
  unfold leftM
  rw [List.foldl_append]
  rfl
theorem Spt_mut {c : Cs} {H : Hp} {p a : Addr} {u v : List V} {b : Spt} (hp : H p = some (.lst u)) (h : SptAt c H a b) : SptAt c (upd H p (.lst v)) a b := by
  obtain ⟨dx, e1⟩ := h
  exact ⟨dx, by rw [upd_ne (ne_of e1 hp (by intro z; cases z))]; exact e1⟩
section
variable {P : Program} {w : World} {K : PySem.W.Frag} {mg : Str → Option Value} {base : Heap} {c : Cs}
def spLeft (c : Cs) : Sp := fun vs H Q _ => ∃ (p sp pb : Addr) (N : Nt) (sas qs : List Addr) (sps : List Spt) (bs : List Bg), vs = [.ref p, .ref sp, .ref pb] ∧ NetAt c H p N ∧ H sp = some (.lst (sas.map V.ref)) ∧ Paired (SptAt c H) sas sps ∧
  H pb = some (.lst (qs.map V.ref)) ∧ Paired (BgAt H) qs bs ∧ (∀ b ∈ bs, (∃ l, N.lines[b.rd]? = some l) ∧ ∀ n ∈ b.ns, n < sps.length) ∧
  ∀ H' pa as, Same H H' → H pa = none → H' pa = some (.lst (as.map V.ref)) → Paired (SptAt c H') as (leftM N sps bs) → Q (.ref pa) H'
theorem ok_left_behind (T : Txt K mg c) : C8.Cal P w K mg base 3 "left_behind" (spLeft c) [] := by
  refine cal_of T.d_left_behind sc_left_behind (fun _ _ _ _ _ _ us hl => match us, hl with | [_, _, _], _ => rfl) (fun vs H Q E h => ?_) (fun f cdv A outer s H vs Q E hr h => ?_)
  · obtain ⟨p, sp, pb, N, sas, qs, sps, bs, rfl, _⟩ := h
    rfl
  · obtain ⟨p, sp, pb, N, sas, qs, sps, bs, rfl, hN, hs, ps, hb, pb', ok, k⟩ := h
    have hu := hu_of hr
    have T_Net_road := ok_Net_road (P := P) (w := w) (base := base) T
    have T_OnRoad := ok_OnRoad_init (P := P) (w := w) (base := base) T
    refine ⟨_, (pss_cons (ps_set (i := 3) sc_left_behind.nd rfl (Or.inl rfl) (pe_callTy call_list_of (by rfl) T.b_list (by decide +kernel) (pa_cons (pv 1) pa_nil)))
  (pss_cons (ps_for PassesOwn.never rfl (pi_list (pv 2)) (pg_tup rfl (pgs_cons (pg_name (i := 4) sc_left_behind.nd rfl (Or.inl rfl)) (pgs_cons (pg_name (i := 5) sc_left_behind.nd rfl (Or.inl rfl)) (pgs_cons (pg_name (i := 6) sc_left_behind.nd rfl (Or.inl rfl)) pgs_nil)))) (pss_one (ps_for PassesOwn.never rfl (pi_tup (pv 6)) (pg_name (i := 7) sc_left_behind.nd rfl (Or.inl rfl)) (pss_one (ps_asg (C8.pe_mk T_OnRoad hr (by decide) rfl (pa_cons (pv 5) (pa_cons (pe_op op_add (pv 4) (pe_ix ix_tup (C8.pe_mt T_Net_road hr (by decide) (pv 0) (pa_cons (pv 5) pa_nil)) pe_int (fun _ _ => rfl))) pa_nil))) (pg_sub (pv 3) (pv 7) set_list))))))
  (pss_one (ps_ret (pv 3))))), ?_⟩
    refine ⟨_, rfl, sp, _, rfl, .inl (SqL.of hs), fun pa hpa => ?_⟩
    have s1 : Same H (upd H pa (.lst (sas.map V.ref))) := Same.new hpa
    have h1 : (upd H pa (.lst (sas.map V.ref))) pa = some (.lst (sas.map V.ref)) := upd_same
    generalize upd H pa (.lst (sas.map V.ref)) = H1 at s1 h1
    obtain ⟨G, hG⟩ : ∃ G, G = hid H1 pa := ⟨_, rfl⟩
    have gp : G pa = none := by rw [hG]; exact hid_same
    have sG : Same G H1 := by rw [hG]; exact hid_sub
    have s0 : Same H G := by rw [hG]; exact hid_of s1 hpa
    clear hG
    refine ⟨_, rfl, pb, rfl, ⟨_, SqL.of (s1 _ _ hb)⟩, ?_⟩
    refine for_list (K := K) (xs := qs.map V.ref) (fun i σ H' => ∃ (as : List Addr) (o4 o5 o6 o7 : Option V), σ = [some (.ref p), some (.ref sp), some (.ref pb), some (.ref pa), o4, o5, o6, o7] ∧ Same G H' ∧ H' pa = some (.lst (as.map V.ref)) ∧ Paired (SptAt c H') as (leftM N sps (bs.take i)))
      ⟨sas, _, _, _, _, rfl, sG, h1, L2.Paired.mapP ps fun _ _ => SptAt.mono s1⟩ (fun i σ H' _ ⟨_, _, _, _, _, _, s, _⟩ => SqL.of (s _ _ (s0 _ _ hb))) ?_ ?_
    · rintro i x σ H2 hi ⟨as, o4, o5, o6, o7, rfl, s2, h2, p2⟩
      obtain ⟨a, ha, rfl⟩ := map_of hi
      obtain ⟨b, hbi, hba⟩ := Paired.at_l pb' ha
      obtain ⟨⟨l, hl⟩, hns⟩ := ok b (List.mem_of_getElem? hbi)
      obtain ⟨q, hq1, hq2⟩ := hba.mono (s0.trans s2)
      refine ⟨a, _, rfl, SqT.of hq1, rfl, _, _, rfl, _, _, rfl, _, _, rfl, rfl, ?_⟩
      have g2 : G q = some (.tup (b.ns.map nat)) := by
        obtain ⟨q', z1, z2⟩ := hba.mono s0
        have := s2 _ _ z1
        rw [hq1] at this
        cases this
        exact z2
      refine ⟨_, rfl, q, rfl, ⟨_, SqT.of hq2⟩, ?_⟩
      refine for_tup (K := K) (xs := b.ns.map nat) (fun j σ H' => ∃ (as : List Addr) (o7 : Option V), σ = [some (.ref p), some (.ref sp), some (.ref pb), some (.ref pa), some (.int b.tn), some (nat b.rd), some (.ref q), o7] ∧ Same G H' ∧ H' pa = some (.lst (as.map V.ref)) ∧ Paired (SptAt c H') as (left1 b.rd (b.tn + tnOf N b.rd) (leftM N sps (bs.take i)) (b.ns.take j)))
        ⟨as, _, rfl, s2, h2, p2⟩ (fun i σ H' _ ⟨_, _, _, s, _⟩ => SqT.of (s _ _ g2)) ?_ ?_
      · rintro j y σ H3 hj ⟨as, o7, rfl, s3, h3, p3⟩
        obtain ⟨n, hn, rfl⟩ := map_of hj
        have hN3 : NetAt c H3 p N := hN.mono (s0.trans s3)
        obtain ⟨dn, an, al, n1, n2, n3⟩ := id hN3
        have ln : n < as.length := by
          rw [p3.length, left1_len, leftM_len]
          exact hns n (List.mem_of_getElem? hn)
        refine ⟨_, rfl, _, rfl, _, rfl, p, dn, _, rfl, n1, ln_Net_road, _, rfl, p, N, b.rd, l, rfl, hN3, hl, fun la hla => ⟨la, _, 2, .int l.tn, rfl, rfl, SqT.of hla, rfl, _, _, rfl, rfl, ?_⟩⟩
        intro x dx hx hdx ne
        refine ⟨x, dx, _, _, rfl, upd_same, rfl, ?_⟩
        have s4 := made_same (C := c.onRoad) (o := .ins c.onRoad dx (onRoadF (nat b.rd) (.int (b.tn + l.tn)))) (u := .ins c.onRoad dx []) hx hdx
        have h4 : (upd (upd (upd H3 dx (.own x)) x (.ins c.onRoad dx [])) x (.ins c.onRoad dx (onRoadF (nat b.rd) (.int (b.tn + l.tn))))) x = some (.ins c.onRoad dx (onRoadF (nat b.rd) (.int (b.tn + l.tn)))) := upd_same
        generalize hH4 : upd (upd (upd H3 dx (.own x)) x (.ins c.onRoad dx [])) x (.ins c.onRoad dx (onRoadF (nat b.rd) (.int (b.tn + l.tn)))) = H4 at s4 h4
        have e : b.tn + l.tn = b.tn + tnOf N b.rd := by unfold tnOf; rw [hl]
        have sx : SptAt c H4 x (.rd b.rd (b.tn + tnOf N b.rd)) := ⟨dx, by rw [← e]; exact h4⟩
        refine ⟨_, rfl, _, rfl, pa, _, n, n, rfl, rfl, s4 _ _ h3, ix_in (by rw [List.length_map]; exact ln), ?_⟩
        refine ⟨as.set n x, _, rfl, (s3.trans s4).mut gp, ?_, ?_⟩
        · rw [upd_same, ← List.map_set]
        · rw [take_snoc hn, left1_snoc]
          exact Paired.set' (Spt_mut (s4 _ _ h3) sx) n (L2.Paired.mapP p3 fun a z h => Spt_mut (s4 _ _ h3) (h.mono s4))
      · rintro σ H3 ⟨as, o7, rfl, s3, h3, p3⟩
        rw [List.length_map, List.take_length] at p3
        refine ⟨as, _, _, _, _, rfl, s3, h3, ?_⟩
        rw [take_snoc hbi, leftM_snoc]
        exact p3
    · rintro σ H2 ⟨as, o4, o5, o6, o7, rfl, s2, h2, p2⟩
      rw [List.length_map, pb'.length, List.take_length] at p2
      exact st_ret (val_var rfl) (k H2 pa as (s0.trans s2) hpa h2 p2)
end
end PR
set_option Elab.async false
set_option maxRecDepth 100000
set_option linter.all false
set_option maxHeartbeats 1000000
/-! The day: how it stands in the heap; its making; now, letters, log; ways, shut and reopen. -/
namespace PR
open PySem PySem.Spec PyProof.Rows L2
/-- the addresses of a day's parts; G: what it leans on and nobody changes -/
structure Da where
  (G : Hp) (dx pn wx pw pt pp ps pc pg : Addr)
structure Dy where
  (N : Nt) (tn : Int) (kt : List (List Key × V)) (lts : List Lt) (sps : List Spt) (kc : List (Key × V)) (bs : List Bg)
def Mut (A : Da) (p : Addr) (b : Addr) : Prop := b = p ∨ b = A.pt ∨ b = A.ps ∨ b = A.pc ∨ b = A.pg
def isD : HO → Bool
  | .dK _ => true
  | .dT _ => true
  | .frz _ _ => true
  | _ => false
def dayO (c : Cs) (A : Da) (D : Dy) : HO := .ins c.day A.dx (dayF (.ref A.pn) (.int D.tn) (.ref A.pw) (.ref A.pp) (.ref A.ps) (.ref A.pc) (.ref A.pg))
structure DayAt (c : Cs) (H : Hp) (p : Addr) (A : Da) (D : Dy) : Prop where
  same : Same A.G H
  un : ∀ b, Mut A p b → A.G b = none
  nod : ∀ b o, A.G b = some o → isD o = false
  po : H p = some (dayO c A D)
  net : NetAt c A.G A.pn D.N
  ways : A.G A.pw = some (.ins c.ways A.wx (waysF (.ref A.pn) (.ref A.pt)))
  told : H A.pt = some (.dT D.kt)
  post : LOf (LtAt A.G) A.G A.pp D.lts
  stood : ∃ as : List Addr, H A.ps = some (.lst (as.map V.ref)) ∧ Paired (SptAt c A.G) as D.sps
  closed : H A.pc = some (.dK D.kc)
  gone : ∃ qs : List Addr, H A.pg = some (.lst (qs.map V.ref)) ∧ Paired (BgAt A.G) qs D.bs
  ne : A.ps ≠ A.pg
structure Own (H H' : Hp) (p : Addr) (A A' : Da) : Prop where
  kp : ∀ b o, H b = some o → ¬ Mut A p b → H' b = some o
  nw : ∀ b, Mut A' p b → Mut A p b ∨ H b = none
theorem Own.of {H H' : Hp} {p : Addr} {A : Da} (s : Same H H') : Own H H' p A A := ⟨fun b o e _ => s b o e, fun b m => .inl m⟩
theorem Own.trans {H H1 H2 : Hp} {p : Addr} {A A1 A2 : Da} (a : Own H H1 p A A1) (b : Own H1 H2 p A1 A2) : Own H H2 p A A2 := by
  refine ⟨fun x o e n => b.kp x o (a.kp x o e n) fun m => ?_, fun x m => ?_⟩
  · rcases a.nw x m with m | m
    · exact n m
    · rw [e] at m; cases m
  · rcases b.nw x m with m | m
    · exact a.nw x m
    · by_cases q : Mut A p x
      · exact .inl q
      · cases e : H x with
        | none => exact .inr rfl
        | some o => rw [a.kp x o e q] at m; cases m
section
variable {c : Cs} {H H' : Hp} {p : Addr} {A : Da} {D : Dy}
theorem DayAt.mono (d : DayAt c H p A D) (s : Same H H') : DayAt c H' p A D :=
  ⟨d.same.trans s, d.un, d.nod, s _ _ d.po, d.net, d.ways, s _ _ d.told, d.post, (let ⟨as, h1, h2⟩ := d.stood; ⟨as, s _ _ h1, h2⟩), s _ _ d.closed, (let ⟨qs, h1, h2⟩ := d.gone; ⟨qs, s _ _ h1, h2⟩), d.ne⟩
/-- G stays where only what is the day's own, or a dict, was written -/
theorem DayAt.sameK (d : DayAt c H p A D) (k : ∀ b o, H b = some o → ¬ Mut A p b → H' b = some o) : Same A.G H' := fun b o e => k b o (d.same b o e) fun m => by
  rw [d.un b m] at e
  cases e
theorem dayF_ne {v0 v1 v2 v3 v4 v5 v6 : V} {fs : List (Str × V)} (h : fs.length ≠ 7) {C C' : Addr} {x y : Addr} : (HO.ins C x fs) ≠ (HO.ins C' y (dayF v0 v1 v2 v3 v4 v5 v6)) := fun e => by
  injection e with e1 e2 e3
  rw [e3] at h
  exact h rfl
theorem Spt_fs_len (sp : Spt) : sp.fs.length ≠ 7 := by
  cases sp <;> (unfold Spt.fs; first | (unfold notYetF; decide) | (unfold atHouseF; exact (by decide : (2 : Nat) ≠ 7)) | (unfold onRoadF; exact (by decide : (2 : Nat) ≠ 7)) | (unfold atHomeF; exact (by decide : (1 : Nat) ≠ 7)))
/-- the mutable ones, by what stands there -/
theorem mut_tup (d : DayAt c H p A D) {a : Addr} {u : List V} (h : H a = some (.tup u)) : ¬ Mut A p a := by
  obtain ⟨as, h1, _⟩ := d.stood
  obtain ⟨qs, h2, _⟩ := d.gone
  rintro (e | e | e | e | e)
  · rw [e, d.po] at h; cases h
  · rw [e, d.told] at h; cases h
  · rw [e, h1] at h; cases h
  · rw [e, d.closed] at h; cases h
  · rw [e, h2] at h; cases h
theorem mut_ins (d : DayAt c H p A D) {a C x : Addr} {fs : List (Str × V)} (h : H a = some (.ins C x fs)) (n : fs.length ≠ 7) : ¬ Mut A p a := by
  obtain ⟨as, h1, _⟩ := d.stood
  obtain ⟨qs, h2, _⟩ := d.gone
  rintro (e | e | e | e | e)
  · rw [e, d.po] at h
    exact dayF_ne n (Option.some.inj h).symm
  · rw [e, d.told] at h; cases h
  · rw [e, h1] at h; cases h
  · rw [e, d.closed] at h; cases h
  · rw [e, h2] at h; cases h
-- a ghost that knows all but the mutable ones and the dicts
open Classical in
noncomputable def grow (M : Addr → Prop) (H : Hp) : Hp := fun b => if M b then none else match H b with
  | some o => if isD o = true then none else some o
  | none => none
theorem grow_at {M : Addr → Prop} {a : Addr} {o : HO} (h : H a = some o) (n : ¬ M a) (q : isD o = false) : grow M H a = some o := by
  unfold grow
  rw [if_neg n, h]
  show (if isD o = true then none else some o) = _
  rw [q]
  rfl
theorem grow_un {M : Addr → Prop} {a : Addr} (n : M a) : grow M H a = none := by
  unfold grow
  rw [if_pos n]
theorem grow_inv {M : Addr → Prop} {b : Addr} {o : HO} (e : grow M H b = some o) : H b = some o ∧ isD o = false := by
  unfold grow at e
  by_cases n : M b
  · rw [if_pos n] at e; cases e
  · rw [if_neg n] at e
    cases h : H b with
    | none => rw [h] at e; cases e
    | some u =>
      rw [h] at e
      have e : (if isD u = true then none else some u) = some o := e
      cases q : isD u with
      | true => rw [q] at e; cases e
      | false => rw [q] at e; cases e; exact ⟨rfl, q⟩
theorem grow_sub {M : Addr → Prop} : Same (grow M H) H := fun b o e => (grow_inv e).1
theorem grow_of {M : Addr → Prop} {G : Hp} (s : Same G H) (un : ∀ b, M b → G b = none) (nod : ∀ b o, G b = some o → isD o = false) : Same G (grow M H) := fun b o e => grow_at (s b o e) (fun m => by rw [un b m] at e; cases e) (nod b o e)
end
section
variable {P : Program} {w : World} {K : PySem.W.Frag} {mg : Str → Option Value} {base : Heap} {c : Cs}
def spDayInit (c : Cs) : Sp := fun vs H Q _ => ∃ (p dx pn : Addr) (N : Nt) (t : Int), vs = [.ref p, .ref pn, .int t] ∧ H p = some (.ins c.day dx []) ∧ NetAt c H pn N ∧ NtOk N ∧
  ∀ H' A kt tf, (∀ b o, H b = some o → b ≠ p → H' b = some o) → (∀ b, Mut A p b → b = p ∨ H b = none) → DayAt c H' p A ⟨N, t, kt, [], [], [], []⟩ → RepT kt tf → TfOk N tf → kt.length ≤ 144 → Q .non H'
theorem ok_Day_init (T : Txt K mg c) : C8.Mak P w K mg base 5 "Day" c.day (spDayInit c) [] := by
  refine mak_of T.m_Day T.d_Day_init sc_Day_init (fun _ _ _ _ _ _ us hl => match us, hl with | [_, _, _], _ => rfl) (fun vs H Q E h => ?_) (fun f cdv A outer s H vs Q E hr h => ?_)
  · obtain ⟨p, dx, pn, N, t, rfl, _⟩ := h
    rfl
  · obtain ⟨p, dx, pn, N, t, rfl, hp, hN, ok, k⟩ := h
    have hu := hu_of hr
    have T_shortest := ok_shortest (P := P) (w := w) (base := base) T
    refine ⟨_, (pss_cons (ps_fld (pv 0) (pv 1) rfl)
  (pss_cons (ps_fld (pv 0) (pv 2) rfl)
  (pss_cons (ps_fld (pv 0) (C8.pe_c T_shortest hr (by decide) rfl (pa_cons (pv 1) pa_nil)) rfl)
  (pss_cons (ps_fld (pv 0) (pe_lst pa_nil) rfl)
  (pss_cons (ps_fld (pv 0) (pe_lst pa_nil) rfl)
  (pss_cons (ps_fld (pv 0) pe_dnewK rfl)
  (pss_one (ps_fld (pv 0) (pe_lst pa_nil) rfl)))))))), ?_⟩
    refine ⟨_, rfl, _, rfl, p, c.day, dx, [], rfl, hp, T.cl_Day, T.n_Day_net, (by decide), ?_⟩
    refine ⟨_, rfl, _, rfl, p, c.day, dx, _, rfl, upd_same, T.cl_Day, T.n_Day_turn, (by show 1 < 1000; decide), ?_⟩
    rw [upd_upd]
    -- self.ways = shortest(net)
    generalize hfs : putF "turn" (V.int t) (putF "net" (V.ref pn) []) = fs
    have hN1 : NetAt c (upd H p (.ins c.day dx fs)) pn N := by
      obtain ⟨dn, an, al, h1, h2, as, h3, h4⟩ := hN
      have h1' : H pn ≠ H p := fun e => by
        rw [h1, hp] at e
        injection e with e
        injection e with _ _ e
        cases e
      exact ⟨dn, an, al, by rw [upd_ne (fun e => h1' (by rw [e]))]; exact h1, by rw [upd_ne (ne_of h2 hp (by intro z; cases z))]; exact h2, as, by rw [upd_ne (ne_of h3 hp (by intro z; cases z))]; exact h3, L2.Paired.mapP h4 fun a l e => by
        show upd H p _ a = _
        rw [upd_ne (ne_of e hp (by intro z; cases z))]
        exact e⟩
    have hp1 : (upd H p (.ins c.day dx fs)) p = some (.ins c.day dx fs) := upd_same
    have k1 : ∀ b o, H b = some o → b ≠ p → (upd H p (.ins c.day dx fs)) b = some o := fun b o e n => by rw [upd_ne n]; exact e
    have f1 : ∀ b, (upd H p (.ins c.day dx fs)) b = none → H b = none ∧ b ≠ p := fun b e => by
      have n : b ≠ p := fun z => by rw [z, upd_same] at e; cases e
      rw [upd_ne n] at e
      exact ⟨e, n⟩
    generalize upd H p (.ins c.day dx fs) = H1 at hN1 hp1 k1 f1
    refine ⟨_, rfl, pn, N, rfl, hN1, ok, fun H2 pw wx pt kt tf s2 hpw hpt e1 e2 rep tok few => ?_⟩
    refine ⟨_, rfl, p, c.day, dx, _, rfl, s2 _ _ hp1, T.cl_Day, T.n_Day_ways, (by rw [← hfs]; show 2 < 1000; decide), ?_⟩
    generalize hfs2 : putF "ways" (V.ref pw) fs = fs2
    have un : ∀ b, b = pt → H b = none ∧ b ≠ p := fun b e => by rw [e]; exact f1 _ hpt
    have fr2 : ∀ b, H2 b = none → H b = none ∧ b ≠ p := fun b e => f1 b (s2.free e)
    -- self.posted = []
    refine ⟨by show 0 ≤ sizeLine; decide, fun pp hpp => ?_⟩
    have ppp : p ≠ pp := fun z => by rw [← z, upd_same] at hpp; cases hpp
    have hpp2 : H2 pp = none := by rw [upd_ne ppp.symm] at hpp; exact hpp
    refine ⟨_, rfl, p, c.day, dx, _, rfl, (by rw [upd_ne ppp, upd_same]), T.cl_Day, T.n_Day_posted, (by rw [← hfs2, ← hfs]; show 3 < 1000; decide), ?_⟩
    generalize hfs3 : putF "posted" (V.ref pp) fs2 = fs3
    generalize hH3 : upd (upd (upd H2 p (.ins c.day dx fs2)) pp (.lst [])) p (.ins c.day dx fs3) = H3
    have k3 : ∀ b o, H2 b = some o → b ≠ p → H3 b = some o := fun b o e n => by rw [← hH3, upd_ne n, upd_ne (ne_of_none e hpp2), upd_ne n]; exact e
    have p3 : H3 p = some (.ins c.day dx fs3) := by rw [← hH3, upd_same]
    have pp3 : H3 pp = some (.lst []) := by rw [← hH3, upd_ne ppp.symm, upd_same]
    have fr3 : ∀ b, H3 b = none → H2 b = none ∧ b ≠ p ∧ b ≠ pp := fun b e => by
      have n1 : b ≠ p := fun z => by rw [z, p3] at e; cases e
      have n2 : b ≠ pp := fun z => by rw [z, pp3] at e; cases e
      rw [← hH3, upd_ne n1, upd_ne n2, upd_ne n1] at e
      exact ⟨e, n1, n2⟩
    clear hH3
    -- self.stood = []
    refine ⟨by show 0 ≤ sizeLine; decide, fun ps hps => ?_⟩
    obtain ⟨hps2, psp, pspp⟩ := fr3 ps hps
    refine ⟨_, rfl, p, c.day, dx, _, rfl, (by rw [upd_ne psp.symm]; exact p3), T.cl_Day, T.n_Day_stood, (by rw [← hfs3, ← hfs2, ← hfs]; show 4 < 1000; decide), ?_⟩
    generalize hfs4 : putF "stood" (V.ref ps) fs3 = fs4
    generalize hH4 : upd (upd H3 ps (.lst [])) p (.ins c.day dx fs4) = H4
    have k4 : ∀ b o, H3 b = some o → b ≠ p → H4 b = some o := fun b o e n => by rw [← hH4, upd_ne n, upd_ne (ne_of_none e hps)]; exact e
    have p4 : H4 p = some (.ins c.day dx fs4) := by rw [← hH4, upd_same]
    have ps4 : H4 ps = some (.lst []) := by rw [← hH4, upd_ne psp, upd_same]
    have fr4 : ∀ b, H4 b = none → H3 b = none ∧ b ≠ p ∧ b ≠ ps := fun b e => by
      have n1 : b ≠ p := fun z => by rw [z, p4] at e; cases e
      have n2 : b ≠ ps := fun z => by rw [z, ps4] at e; cases e
      rw [← hH4, upd_ne n1, upd_ne n2] at e
      exact ⟨e, n1, n2⟩
    clear hH4
    -- self.closed = {}
    refine fun pc hpc => ?_
    obtain ⟨hpc3, pcp, pcps⟩ := fr4 pc hpc
    refine ⟨_, rfl, p, c.day, dx, _, rfl, (by rw [upd_ne pcp.symm]; exact p4), T.cl_Day, T.n_Day_closed, (by rw [← hfs4, ← hfs3, ← hfs2, ← hfs]; show 5 < 1000; decide), ?_⟩
    generalize hfs5 : putF "closed" (V.ref pc) fs4 = fs5
    generalize hH5 : upd (upd H4 pc (.dK [])) p (.ins c.day dx fs5) = H5
    have k5 : ∀ b o, H4 b = some o → b ≠ p → H5 b = some o := fun b o e n => by rw [← hH5, upd_ne n, upd_ne (ne_of_none e hpc)]; exact e
    have p5 : H5 p = some (.ins c.day dx fs5) := by rw [← hH5, upd_same]
    have pc5 : H5 pc = some (.dK []) := by rw [← hH5, upd_ne pcp, upd_same]
    have fr5 : ∀ b, H5 b = none → H4 b = none ∧ b ≠ p ∧ b ≠ pc := fun b e => by
      have n1 : b ≠ p := fun z => by rw [z, p5] at e; cases e
      have n2 : b ≠ pc := fun z => by rw [z, pc5] at e; cases e
      rw [← hH5, upd_ne n1, upd_ne n2] at e
      exact ⟨e, n1, n2⟩
    clear hH5
    -- self.gone = []
    refine ⟨by show 0 ≤ sizeLine; decide, fun pg hpg => ?_⟩
    obtain ⟨hpg4, pgp, pgpc⟩ := fr5 pg hpg
    refine ⟨_, rfl, p, c.day, dx, _, rfl, (by rw [upd_ne pgp.symm]; exact p5), T.cl_Day, T.n_Day_gone, (by rw [← hfs5, ← hfs4, ← hfs3, ← hfs2, ← hfs]; show 6 < 1000; decide), ?_⟩
    have efs : putF "gone" (V.ref pg) fs5 = dayF (.ref pn) (.int t) (.ref pw) (.ref pp) (.ref ps) (.ref pc) (.ref pg) := by
      rw [← hfs5, ← hfs4, ← hfs3, ← hfs2, ← hfs]
      kernel_rfl
    rw [efs]
    generalize hH6 : upd (upd H5 pg (.lst [])) p (.ins c.day dx (dayF (.ref pn) (.int t) (.ref pw) (.ref pp) (.ref ps) (.ref pc) (.ref pg))) = H6
    have k6 : ∀ b o, H5 b = some o → b ≠ p → H6 b = some o := fun b o e n => by rw [← hH6, upd_ne n, upd_ne (ne_of_none e hpg)]; exact e
    have p6 : H6 p = some (.ins c.day dx (dayF (.ref pn) (.int t) (.ref pw) (.ref pp) (.ref ps) (.ref pc) (.ref pg))) := by rw [← hH6, upd_same]
    have pg6 : H6 pg = some (.lst []) := by rw [← hH6, upd_ne pgp, upd_same]
    clear hH6
    have psG : ps ≠ pg := ne_of_none (k5 _ _ ps4 psp) hpg
    have k26 : ∀ b o, H2 b = some o → b ≠ p → H6 b = some o := fun b o e n => k6 _ _ (k5 _ _ (k4 _ _ (k3 _ _ e n) n) n) n
    have ptp : pt ≠ p := (f1 _ hpt).2
    have pt6 := k26 _ _ e2 ptp
    have ps6 : H6 ps = some (.lst []) := k6 _ _ (k5 _ _ ps4 psp) psp
    have pc6 : H6 pc = some (.dK []) := k6 _ _ pc5 pcp
    have pp6 : H6 pp = some (.lst []) := k6 _ _ (k5 _ _ (k4 _ _ pp3 ppp.symm) ppp.symm) ppp.symm
    have wp : pw ≠ p := (f1 _ hpw).2
    have pw6 := k26 _ _ e1 wp
    obtain ⟨M, hM⟩ : ∃ M : Addr → Prop, M = fun b => b = p ∨ b = pt ∨ b = ps ∨ b = pc ∨ b = pg := ⟨_, rfl⟩
    have m_tup : ∀ a u, H6 a = some (.tup u) → ¬ M a := fun a u h m => by
      rw [hM] at m
      rcases m with e | e | e | e | e
      · rw [e, p6] at h; cases h
      · rw [e, pt6] at h; cases h
      · rw [e, ps6] at h; cases h
      · rw [e, pc6] at h; cases h
      · rw [e, pg6] at h; cases h
    have m_ins : ∀ a C x fs, H6 a = some (.ins C x fs) → fs.length ≠ 7 → ¬ M a := fun a C x fs h n m => by
      rw [hM] at m
      rcases m with e | e | e | e | e
      · rw [e, p6] at h
        exact dayF_ne n (Option.some.inj h).symm
      · rw [e, pt6] at h; cases h
      · rw [e, ps6] at h; cases h
      · rw [e, pc6] at h; cases h
      · rw [e, pg6] at h; cases h
    have m_lst : ∀ a u, H6 a = some (.lst u) → a ≠ ps → a ≠ pg → ¬ M a := fun a u h n1 n2 m => by
      rw [hM] at m
      rcases m with e | e | e | e | e
      · rw [e, p6] at h; cases h
      · rw [e, pt6] at h; cases h
      · exact n1 e
      · rw [e, pc6] at h; cases h
      · exact n2 e
    refine k H6 ⟨grow M H6, dx, pn, wx, pw, pt, pp, ps, pc, pg⟩ kt tf (fun b o e n => k26 _ _ (s2 _ _ (k1 b o e n)) n) (fun b m => ?_) ⟨grow_sub, fun b m => grow_un (by rw [hM]; exact m), fun b o e => (grow_inv e).2, p6, ?_, grow_at pw6 (m_ins _ _ _ _ pw6 (show (2 : Nat) ≠ 7 by decide)) rfl, pt6, ⟨[], grow_at pp6 (m_lst _ _ pp6 pspp.symm (ne_of_none (k5 _ _ (k4 _ _ pp3 ppp.symm) ppp.symm) hpg)) rfl, .nil⟩, ⟨[], ps6, .nil⟩, pc6, ⟨[], pg6, .nil⟩, psG⟩ rep tok few
    · rcases m with e | e | e | e | e
      · exact .inl e
      · exact .inr (by rw [e]; exact (f1 _ hpt).1)
      · exact .inr (by rw [e]; exact (fr2 _ hps2).1)
      · exact .inr (by rw [e]; exact (fr2 _ (fr3 _ hpc3).1).1)
      · exact .inr (by rw [e]; exact (fr2 _ (fr3 _ (fr4 _ hpg4).1).1).1)
    · obtain ⟨dn, an, al, h1, h2, as, h3, h4⟩ := hN1.mono s2
      obtain ⟨dn', an', al', g1, g2, as', g3, g4⟩ := hN1
      have npn : pn ≠ p := fun e => by
        rw [e, hp1] at g1
        injection g1 with g1
        injection g1 with _ _ g1
        rw [← hfs] at g1
        have := congrArg (fun l => (l.map (·.1))) g1
        revert this
        show ¬ _
        show ¬ ([("net" : Str), ("turn" : Str)] = [("names" : Str), ("lines" : Str)])
        decide
      have a6 := k26 _ _ h2 (ne_of (s2 _ _ hp1) h2 (by intro z; cases z)).symm
      have l6 := k26 _ _ h3 (ne_of (s2 _ _ hp1) h3 (by intro z; cases z)).symm
      have n6 := k26 _ _ h1 npn
      have fs2 : ∀ b u, H2 b = some u → b ≠ ps ∧ b ≠ pg := fun b u e => ⟨ne_of_none e hps2, ne_of_none e (fr3 _ (fr4 _ hpg4).1).1⟩
      exact ⟨dn, an, al, grow_at n6 (m_ins _ _ _ _ n6 (show (2 : Nat) ≠ 7 by decide)) rfl, grow_at a6 (m_lst _ _ a6 (fs2 _ _ h2).1 (fs2 _ _ h2).2) rfl, as, grow_at l6 (m_lst _ _ l6 (fs2 _ _ h3).1 (fs2 _ _ h3).2) rfl, L2.Paired.mapP h4 fun a l e => by
        have e6 := k26 _ _ e (ne_of (s2 _ _ hp1) e (by intro z; cases z)).symm
        exact grow_at e6 (m_tup _ _ e6) rfl⟩
def spNow (c : Cs) : Sp := fun vs H Q _ => ∃ (p : Addr) (A : Da) (D : Dy), vs = [.ref p] ∧ DayAt c H p A D ∧ Q (.int D.tn) H
theorem ok_Day_now (T : Txt K mg c) : C8.Met P w K mg base 1 c.day "now" (spNow c) [] := by
  refine met_of T.cl_Day T.d_Day_now sc_Day_now (fun _ _ _ _ _ _ us hl => match us, hl with | [_], _ => rfl) (fun vs H Q E h => ?_) (fun f cdv A outer s H vs Q E hr h => ?_)
  · obtain ⟨p, A, D, rfl, _⟩ := h
    rfl
  · obtain ⟨p, A, D, rfl, d, k⟩ := h
    have hu := hu_of hr
    refine ⟨_, (pss_one (ps_ret (pe_fld (pv 0) rfl))), ?_⟩
    exact ⟨_, rfl, p, c.day, _, _, _, rfl, d.po, T.cl_Day, T.n_Day_turn, lk_Day_turn, k⟩
def spLog (c : Cs) : Sp := fun vs H Q _ => ∃ (p : Addr) (A : Da) (D : Dy), vs = [.ref p] ∧ DayAt c H p A D ∧ ∀ H' l, Same H H' → H l = none → LOf (BgAt H') H' l D.bs → Q (.ref l) H'
theorem ok_Day_log (T : Txt K mg c) : C8.Met P w K mg base 1 c.day "log" (spLog c) [] := by
  refine met_of T.cl_Day T.d_Day_log sc_Day_log (fun _ _ _ _ _ _ us hl => match us, hl with | [_], _ => rfl) (fun vs H Q E h => ?_) (fun f cdv A outer s H vs Q E hr h => ?_)
  · obtain ⟨p, A, D, rfl, _⟩ := h
    rfl
  · obtain ⟨p, A, D, rfl, d, k⟩ := h
    have hu := hu_of hr
    refine ⟨_, (pss_one (ps_ret (pe_callTy call_list_of (by rfl) T.b_list (by decide +kernel) (pa_cons (pe_fld (pv 0) rfl) pa_nil)))), ?_⟩
    obtain ⟨qs, h1, h2⟩ := d.gone
    refine ⟨_, rfl, p, c.day, _, _, _, rfl, d.po, T.cl_Day, T.n_Day_gone, lk_Day_gone, _, _, rfl, .inl (SqL.of h1), fun l hl => ?_⟩
    exact k _ l (Same.new hl) hl ⟨qs, upd_same, L2.Paired.mapP h2 fun _ _ => BgAt.mono (d.same.trans (Same.new hl))⟩
def spLetters (c : Cs) : Sp := fun vs H Q _ => ∃ (p : Addr) (A : Da) (D : Dy), vs = [.ref p] ∧ DayAt c H p A D ∧ ∀ H' l, Same H H' → H l = none → LOf (LtAt H') H' l D.lts → Q (.ref l) H'
theorem ok_Day_letters (T : Txt K mg c) : C8.Met P w K mg base 1 c.day "letters" (spLetters c) [] := by
  refine met_of T.cl_Day T.d_Day_letters sc_Day_letters (fun _ _ _ _ _ _ us hl => match us, hl with | [_], _ => rfl) (fun vs H Q E h => ?_) (fun f cdv A outer s H vs Q E hr h => ?_)
  · obtain ⟨p, A, D, rfl, _⟩ := h
    rfl
  · obtain ⟨p, A, D, rfl, d, k⟩ := h
    have hu := hu_of hr
    refine ⟨_, (pss_one (ps_ret (pe_callTy call_list_of (by rfl) T.b_list (by decide +kernel) (pa_cons (pe_fld (pv 0) rfl) pa_nil)))), ?_⟩
    obtain ⟨qs, h1, h2⟩ := d.post
    refine ⟨_, rfl, p, c.day, _, _, _, rfl, d.po, T.cl_Day, T.n_Day_posted, lk_Day_posted, _, _, rfl, .inl (SqL.of (d.same _ _ h1)), fun l hl => ?_⟩
    exact k _ l (Same.new hl) hl ⟨qs, upd_same, L2.Paired.mapP h2 fun _ _ => LtAt.mono (d.same.trans (Same.new hl))⟩
/-- the dict of the ways is written -/
theorem DayAt.putT {H H' : Hp} {p : Addr} {A : Da} {D : Dy} {kt : List (List Key × V)} (d : DayAt c H p A D) (k : ∀ b o, H b = some o → b ≠ A.pt → H' b = some o) (e : H' A.pt = some (.dT kt)) : DayAt c H' p A { D with kt := kt } ∧ Own H H' p A A := by
  have k' : ∀ b o, H b = some o → ¬ Mut A p b → H' b = some o := fun b o z n => k b o z fun q => n (.inr (.inl q))
  obtain ⟨as, h1, h2⟩ := d.stood
  obtain ⟨qs, g1, g2⟩ := d.gone
  exact ⟨⟨d.sameK k', d.un, d.nod, k _ _ d.po (ne_of d.po d.told (by intro z; cases z)), d.net, d.ways, e, d.post, ⟨as, k _ _ h1 (ne_of h1 d.told (by intro z; cases z)), h2⟩, k _ _ d.closed (ne_of d.closed d.told (by intro z; cases z)), ⟨qs, k _ _ g1 (ne_of g1 d.told (by intro z; cases z)), g2⟩, d.ne⟩, ⟨k', fun b m => .inl m⟩⟩
/-- the dict of the closed is written -/
theorem DayAt.putC {H H' : Hp} {p : Addr} {A : Da} {D : Dy} {kc : List (Key × V)} (d : DayAt c H p A D) (k : ∀ b o, H b = some o → b ≠ A.pc → H' b = some o) (e : H' A.pc = some (.dK kc)) : DayAt c H' p A { D with kc := kc } ∧ Own H H' p A A := by
  have k' : ∀ b o, H b = some o → ¬ Mut A p b → H' b = some o := fun b o z n => k b o z fun q => n (.inr (.inr (.inr (.inl q))))
  obtain ⟨as, h1, h2⟩ := d.stood
  obtain ⟨qs, g1, g2⟩ := d.gone
  exact ⟨⟨d.sameK k', d.un, d.nod, k _ _ d.po (ne_of d.po d.closed (by intro z; cases z)), d.net, d.ways, k _ _ d.told (ne_of d.told d.closed (by intro z; cases z)), d.post, ⟨as, k _ _ h1 (ne_of h1 d.closed (by intro z; cases z)), h2⟩, e, ⟨qs, k _ _ g1 (ne_of g1 d.closed (by intro z; cases z)), g2⟩, d.ne⟩, ⟨k', fun b m => .inl m⟩⟩
def spDaySetWay (c : Cs) : Sp := fun vs H Q _ => ∃ (p : Addr) (A : Da) (D : Dy) (h g : Str) (r : Nat) (l : Ln), vs = [.ref p, .str h, .str g, nat r] ∧ DayAt c H p A D ∧ D.kt.length ≤ 10000 ∧ D.N.lines.length ≤ 40 ∧ h ∈ D.N.names ∧ g ∈ D.N.names ∧ h ≠ g ∧ D.N.lines[r]? = some l ∧ l.fr = h ∧
  ∀ H', Own H H' p A A → DayAt c H' p A { D with kt := putK D.kt [Sum.inr h, Sum.inr g] (nat r) } → Q .non H'
theorem ok_Day_set_way (T : Txt K mg c) : C8.Met P w K mg base 4 c.day "set_way" (spDaySetWay c) [] := by
  refine met_of T.cl_Day T.d_Day_set_way sc_Day_set_way (fun _ _ _ _ _ _ us hl => match us, hl with | [_, _, _, _], _ => rfl) (fun vs H Q E h => ?_) (fun f cdv A outer s H vs Q E hr h => ?_)
  · obtain ⟨p, A, D, h, g, r, l, rfl, _⟩ := h
    rfl
  · obtain ⟨p, A, D, h, g, r, l, rfl, d, few, fl, hh, hg, ne, hl, hfr, k⟩ := h
    have hu := hu_of hr
    have T_Ways_set_way := ok_Ways_set_way (P := P) (w := w) (base := base) T
    refine ⟨_, (pss_one (ps_expr (C8.pe_mt T_Ways_set_way hr (by decide) (pe_fld (pv 0) rfl) (pa_cons (pv 1) (pa_cons (pv 2) (pa_cons (pv 3) pa_nil)))))), ?_⟩
    refine ⟨_, rfl, p, c.day, _, _, _, rfl, d.po, T.cl_Day, T.n_Day_ways, lk_Day_ways, A.pw, A.wx, _, rfl, d.same _ _ d.ways, ln_Ways_set_way, _, rfl, _, rfl, _, rfl, ?_⟩
    refine ⟨A.pw, A.wx, A.pn, A.pt, D.N, h, g, r, l, D.kt, rfl, d.same _ _ d.ways, d.told, few, d.net.mono d.same, fl, hh, hg, ne, hl, hfr, fun H' k' e => ?_⟩
    obtain ⟨z1, z2⟩ := d.putT k' e
    exact k H' z2 z1
def spDayDropWay (c : Cs) : Sp := fun vs H Q _ => ∃ (p : Addr) (A : Da) (D : Dy) (h g : Str), vs = [.ref p, .str h, .str g] ∧ DayAt c H p A D ∧ h ∈ D.N.names ∧ g ∈ D.N.names ∧ h ≠ g ∧
  ∀ H' kt, Own H H' p A A → DayAt c H' p A { D with kt := kt } → (kt = dropK D.kt [Sum.inr h, Sum.inr g] ∨ (kt = D.kt ∧ valV D.kt [Sum.inr h, Sum.inr g] = none)) → Q .non H'
theorem ok_Day_drop_way (T : Txt K mg c) : C8.Met P w K mg base 4 c.day "drop_way" (spDayDropWay c) [] := by
  refine met_of T.cl_Day T.d_Day_drop_way sc_Day_drop_way (fun _ _ _ _ _ _ us hl => match us, hl with | [_, _, _], _ => rfl) (fun vs H Q E h => ?_) (fun f cdv A outer s H vs Q E hr h => ?_)
  · obtain ⟨p, A, D, h, g, rfl, _⟩ := h
    rfl
  · obtain ⟨p, A, D, h, g, rfl, d, hh, hg, ne, k⟩ := h
    have hu := hu_of hr
    have T_Ways_drop_way := ok_Ways_drop_way (P := P) (w := w) (base := base) T
    refine ⟨_, (pss_one (ps_expr (C8.pe_mt T_Ways_drop_way hr (by decide) (pe_fld (pv 0) rfl) (pa_cons (pv 1) (pa_cons (pv 2) pa_nil))))), ?_⟩
    refine ⟨_, rfl, p, c.day, _, _, _, rfl, d.po, T.cl_Day, T.n_Day_ways, lk_Day_ways, A.pw, A.wx, _, rfl, d.same _ _ d.ways, ln_Ways_drop_way, _, rfl, _, rfl, ?_⟩
    refine ⟨A.pw, A.wx, A.pn, A.pt, D.N, h, g, D.kt, rfl, d.same _ _ d.ways, d.told, d.net.mono d.same, hh, hg, ne, fun H' kt k' e q => ?_⟩
    obtain ⟨z1, z2⟩ := d.putT k' e
    exact k H' kt z2 z1 q
def spShut (c : Cs) : Sp := fun vs H Q _ => ∃ (p : Addr) (A : Da) (D : Dy) (r : Nat) (l : Ln), vs = [.ref p, nat r] ∧ DayAt c H p A D ∧ D.N.lines[r]? = some l ∧ D.kc.length ≤ 10000 ∧
  ∀ H', Own H H' p A A → DayAt c H' p A { D with kc := putK D.kc (Sum.inl (r : Int)) (.bl true) } → Q .non H'
theorem ok_Day_shut (T : Txt K mg c) : C8.Met P w K mg base 2 c.day "shut" (spShut c) [] := by
  refine met_of T.cl_Day T.d_Day_shut sc_Day_shut (fun _ _ _ _ _ _ us hl => match us, hl with | [_, _], _ => rfl) (fun vs H Q E h => ?_) (fun f cdv A outer s H vs Q E hr h => ?_)
  · obtain ⟨p, A, D, r, l, rfl, _⟩ := h
    rfl
  · obtain ⟨p, A, D, r, l, rfl, d, hl, few, k⟩ := h
    have hu := hu_of hr
    have T_Net_road := ok_Net_road (P := P) (w := w) (base := base) T
    refine ⟨_, (pss_cons (ps_expr (C8.pe_mt T_Net_road hr (by decide) (pe_fld (pv 0) rfl) (pa_cons (pv 1) pa_nil)))
  (pss_one (ps_dput hu (pe_fld (pv 0) rfl) (pv 1) pe_bl rfl))), ?_⟩
    have hN := d.net.mono d.same
    obtain ⟨dn, an, al, n1, n2, n3⟩ := id hN
    refine ⟨_, rfl, p, c.day, _, _, _, rfl, d.po, T.cl_Day, T.n_Day_net, lk_Day_net, A.pn, dn, _, rfl, n1, ln_Net_road, _, rfl, A.pn, D.N, r, l, rfl, hN, hl, fun la hla => ?_⟩
    refine ⟨_, rfl, p, c.day, _, _, _, rfl, d.po, T.cl_Day, T.n_Day_closed, lk_Day_closed, _, rfl, A.pc, _, rfl, DPut.k (k := Sum.inl (r : Int)) d.closed (sz_lt (by omega)), ?_⟩
    obtain ⟨z1, z2⟩ := d.putC (H' := upd H A.pc (.dK (putK D.kc (Sum.inl (r : Int)) (.bl true)))) (fun b o e n => by rw [upd_ne n]; exact e) upd_same
    exact k _ z2 z1
def spReopen (c : Cs) : Sp := fun vs H Q _ => ∃ (p : Addr) (A : Da) (D : Dy) (r : Nat) (l : Ln), vs = [.ref p, nat r] ∧ DayAt c H p A D ∧ D.N.lines[r]? = some l ∧
  ∀ H', Own H H' p A A → DayAt c H' p A { D with kc := dropK D.kc (Sum.inl (r : Int)) } → Q .non H'
theorem dropK_none {κ : Type} [DecidableEq κ] {k : κ} : ∀ {kvs : List (κ × V)}, valV kvs k = none → dropK kvs k = kvs
  | [], _ => rfl
  | (a, v) :: r, h => by
    by_cases q : a = k
    · rw [valV_pos (p := (a, v)) q] at h
      cases h
    · rw [valV_neg (p := (a, v)) q] at h
      have ih := dropK_none h
      unfold dropK at ih ⊢
      rw [List.filter_cons_of_pos (by simpa using q), ih]
theorem ok_Day_reopen (T : Txt K mg c) : C8.Met P w K mg base 2 c.day "reopen" (spReopen c) [] := by
  refine met_of T.cl_Day T.d_Day_reopen sc_Day_reopen (fun _ _ _ _ _ _ us hl => match us, hl with | [_, _], _ => rfl) (fun vs H Q E h => ?_) (fun f cdv A outer s H vs Q E hr h => ?_)
  · obtain ⟨p, A, D, r, l, rfl, _⟩ := h
    rfl
  · obtain ⟨p, A, D, r, l, rfl, d, hl, k⟩ := h
    have hu := hu_of hr
    have T_Net_road := ok_Net_road (P := P) (w := w) (base := base) T
    refine ⟨_, (pss_cons (ps_expr (C8.pe_mt T_Net_road hr (by decide) (pe_fld (pv 0) rfl) (pa_cons (pv 1) pa_nil)))
  (pss_one (ps_expr (pe_dpop2 (pe_fld (pv 0) rfl) (pv 1) pe_non ⟨rfl, rfl, rfl, rfl⟩)))), ?_⟩
    have hN := d.net.mono d.same
    obtain ⟨dn, an, al, n1, n2, n3⟩ := id hN
    refine ⟨_, rfl, p, c.day, _, _, _, rfl, d.po, T.cl_Day, T.n_Day_net, lk_Day_net, A.pn, dn, _, rfl, n1, ln_Net_road, _, rfl, A.pn, D.N, r, l, rfl, hN, hl, fun la hla => ?_⟩
    refine ⟨_, rfl, p, c.day, _, _, _, rfl, d.po, T.cl_Day, T.n_Day_closed, lk_Day_closed, A.pc, rfl, .inl ⟨_, .inl d.closed⟩, _, rfl, D.kc, Sum.inl (r : Int), d.closed, rfl, fun v hv => ?_, fun hv => ?_⟩
    · obtain ⟨z1, z2⟩ := d.putC (H' := upd H A.pc (.dK (dropK D.kc (Sum.inl (r : Int))))) (fun b o e n => by rw [upd_ne n]; exact e) upd_same
      exact k _ z2 z1
    · have : dropK D.kc (Sum.inl (r : Int) : Key) = D.kc := dropK_none hv
      have k := k H (Own.of (Same.refl _))
      rw [this] at k
      exact k d
end
end PR
set_option Elab.async false
set_option maxRecDepth 100000
set_option linter.all false
set_option maxHeartbeats 1000000
/-! The day: post, settle, spot, pass_turn. -/
namespace PR
open PySem PySem.Spec PyProof.Rows L2
theorem DayAt.regrow {c : Cs} {G0 H : Hp} {p : Addr} {A : Da} {D : Dy} (hG : A.G = grow (Mut A p) H) (s : Same G0 H) (un : ∀ b, Mut A p b → G0 b = none) (nod : ∀ b o, G0 b = some o → isD o = false) (po : H p = some (dayO c A D)) (net : NetAt c G0 A.pn D.N)
    (ways : G0 A.pw = some (.ins c.ways A.wx (waysF (.ref A.pn) (.ref A.pt)))) (told : H A.pt = some (.dT D.kt)) (post : LOf (LtAt H) H A.pp D.lts) (n1 : A.pp ≠ A.ps) (n2 : A.pp ≠ A.pg)
    (stood : ∃ as : List Addr, H A.ps = some (.lst (as.map V.ref)) ∧ Paired (SptAt c H) as D.sps) (closed : H A.pc = some (.dK D.kc)) (gone : ∃ qs : List Addr, H A.pg = some (.lst (qs.map V.ref)) ∧ Paired (BgAt H) qs D.bs) (ne : A.ps ≠ A.pg) : DayAt c H p A D := by
  obtain ⟨as, s1, s2⟩ := stood
  obtain ⟨qs, g1, g2⟩ := gone
  obtain ⟨ls, l1, l2⟩ := post
  have m_tup : ∀ a u, H a = some (.tup u) → ¬ Mut A p a := fun a u h m => by
    rcases m with e | e | e | e | e
    · rw [e, po] at h; cases h
    · rw [e, told] at h; cases h
    · rw [e, s1] at h; cases h
    · rw [e, closed] at h; cases h
    · rw [e, g1] at h; cases h
  have m_ins : ∀ a C x fs, H a = some (.ins C x fs) → fs.length ≠ 7 → ¬ Mut A p a := fun a C x fs h n m => by
    rcases m with e | e | e | e | e
    · rw [e, po] at h
      exact dayF_ne n (Option.some.inj h).symm
    · rw [e, told] at h; cases h
    · rw [e, s1] at h; cases h
    · rw [e, closed] at h; cases h
    · rw [e, g1] at h; cases h
  have m_pp : ¬ Mut A p A.pp := fun m => by
    rcases m with e | e | e | e | e
    · rw [e, po] at l1; cases l1
    · rw [e, told] at l1; cases l1
    · exact n1 e
    · rw [e, closed] at l1; cases l1
    · exact n2 e
  have sg : Same G0 A.G := by rw [hG]; exact grow_of s un nod
  have tup : ∀ a u, H a = some (.tup u) → A.G a = some (.tup u) := fun a u e => by rw [hG]; exact grow_at e (m_tup a u e) rfl
  refine ⟨by rw [hG]; exact grow_sub, fun b m => by rw [hG]; exact grow_un m, fun b o e => by rw [hG] at e; exact (grow_inv e).2, po, net.mono sg, sg _ _ ways, told, ⟨ls, by rw [hG]; exact grow_at l1 m_pp rfl, L2.Paired.mapP l2 fun a t e => tup a _ e⟩, ⟨as, s1, L2.Paired.mapP s2 fun a t ⟨dx, e⟩ => ⟨dx, by rw [hG]; exact grow_at e (m_ins _ _ _ _ e (Spt_fs_len t)) rfl⟩⟩, closed, ⟨qs, g1, L2.Paired.mapP g2 fun a t ⟨q, e1, e2⟩ => ⟨q, tup _ _ e1, tup _ _ e2⟩⟩, ne⟩
/-- a new list of spots -/
theorem DayAt.newS {c : Cs} {H H1 : Hp} {p : Addr} {A : Da} {D : Dy} {ps : Addr} {as : List Addr} {sps : List Spt} (d : DayAt c H p A D) (s : Same H H1) (hn : H ps = none) (e : H1 ps = some (.lst (as.map V.ref))) (ps1 : Paired (SptAt c H1) as sps) :
    ∃ A', A'.ps = ps ∧ A'.pp = A.pp ∧ A'.pg = A.pg ∧ A'.pc = A.pc ∧ A'.pt = A.pt ∧ A'.pn = A.pn ∧ A'.pw = A.pw ∧ A'.dx = A.dx ∧ DayAt c (upd H1 p (dayO c A' D)) p A' { D with sps := sps } ∧ Own H (upd H1 p (dayO c A' D)) p A A' ∧ (∀ a b, BgAt H1 a b → BgAt A'.G a b) := by
  obtain ⟨H2, hH2⟩ : ∃ H2, H2 = upd H1 p (dayO c { A with ps := ps } D) := ⟨_, rfl⟩
  refine ⟨⟨grow (Mut { A with ps := ps } p) H2, A.dx, A.pn, A.wx, A.pw, A.pt, A.pp, ps, A.pc, A.pg⟩, rfl, rfl, rfl, rfl, rfl, rfl, rfl, rfl, ?_⟩
  have eH : upd H1 p (dayO c (⟨grow (Mut { A with ps := ps } p) H2, A.dx, A.pn, A.wx, A.pw, A.pt, A.pp, ps, A.pc, A.pg⟩ : Da) D) = H2 := hH2.symm
  rw [eH]
  have pne : ∀ {b o}, H1 b = some o → (∀ C x fs, o ≠ .ins C x fs) → b ≠ p := fun {b o} e n => ne_of e (s _ _ d.po) (n _ _ _)
  have k : ∀ b o, H1 b = some o → b ≠ p → H2 b = some o := fun b o e n => by rw [hH2, upd_ne n]; exact e
  have kl : ∀ b o, H1 b = some o → (∀ C x fs, o ≠ .ins C x fs) → H2 b = some o := fun b o e n => k b o e (pne e n)
  have psp : ps ≠ p := fun z => by rw [z, d.po] at hn; cases hn
  have d1 := d.mono s
  obtain ⟨qs, g1, g2⟩ := d1.gone
  obtain ⟨ls, l1, l2⟩ := d.post
  have D2 : DayAt c H2 p (⟨grow (Mut { A with ps := ps } p) H2, A.dx, A.pn, A.wx, A.pw, A.pt, A.pp, ps, A.pc, A.pg⟩ : Da) { D with sps := sps } := by
    refine DayAt.regrow (G0 := A.G) rfl (fun b o e => k b o (d1.same _ _ e) fun z => by rw [z, d.un p (.inl rfl)] at e; cases e) (fun b m => ?_) d.nod (by rw [hH2, upd_same] <;> rfl) d.net d.ways (kl _ _ d1.told (fun _ _ _ z => by cases z))
      ⟨ls, kl _ _ (d1.same _ _ l1) (fun _ _ _ z => by cases z), L2.Paired.mapP l2 fun a t e => kl _ _ (d1.same _ _ e) (fun _ _ _ z => by cases z)⟩ (fun z => by rw [show A.pp = ps from z] at l1; rw [d.same _ _ l1] at hn; cases hn) (fun z => by
        have z : A.pp = A.pg := z
        rw [z, d.un _ (.inr (.inr (.inr (.inr rfl))))] at l1; cases l1)
      ⟨as, k _ _ e psp, L2.Paired.mapP ps1 fun a t ⟨dx, e⟩ => ⟨dx, k _ _ e fun z => mut_ins d1 e (Spt_fs_len t) (.inl z)⟩⟩ (kl _ _ d1.closed (fun _ _ _ z => by cases z))
      ⟨qs, kl _ _ g1 (fun _ _ _ z => by cases z), L2.Paired.mapP g2 fun a t ⟨q, e1, e2⟩ => ⟨q, kl _ _ (d1.same _ _ e1) (fun _ _ _ z => by cases z), kl _ _ (d1.same _ _ e2) (fun _ _ _ z => by cases z)⟩⟩ (fun z => by
        have z : ps = A.pg := z
        obtain ⟨qs', g1', _⟩ := d.gone
        rw [z, g1'] at hn; cases hn)
    rcases m with e' | e' | e' | e' | e'
    · exact d.un _ (.inl e')
    · exact d.un _ (.inr (.inl e'))
    · rw [e']; exact d.same.free hn
    · exact d.un _ (.inr (.inr (.inr (.inl e'))))
    · exact d.un _ (.inr (.inr (.inr (.inr e'))))
  refine ⟨D2, ⟨fun b o e n => k b o (s _ _ e) fun z => n (.inl z), fun b m => ?_⟩, fun a b ⟨q, e1, e2⟩ => ?_⟩
  · rcases m with e' | e' | e' | e' | e'
    · exact .inl (.inl e')
    · exact .inl (.inr (.inl e'))
    · exact .inr (by rw [e']; exact hn)
    · exact .inl (.inr (.inr (.inr (.inl e'))))
    · exact .inl (.inr (.inr (.inr (.inr e'))))
  · have f1 := kl _ _ e1 (fun _ _ _ z => by cases z)
    have f2 := kl _ _ e2 (fun _ _ _ z => by cases z)
    exact ⟨q, grow_at f1 (mut_tup D2 f1) rfl, grow_at f2 (mut_tup D2 f2) rfl⟩
/-- the turn is set -/
theorem DayAt.putN {c : Cs} {H : Hp} {p : Addr} {A : Da} {D : Dy} {t : Int} (d : DayAt c H p A D) : DayAt c (upd H p (dayO c A { D with tn := t })) p A { D with tn := t } ∧ Own H (upd H p (dayO c A { D with tn := t })) p A A := by
  have k : ∀ b o, H b = some o → b ≠ p → (upd H p (dayO c A { D with tn := t })) b = some o := fun b o e n => by rw [upd_ne n]; exact e
  have kl : ∀ b o, H b = some o → (∀ C x fs, o ≠ .ins C x fs) → (upd H p (dayO c A { D with tn := t })) b = some o := fun b o e n => k b o e (ne_of e d.po (n _ _ _))
  obtain ⟨as, h1, h2⟩ := d.stood
  obtain ⟨qs, g1, g2⟩ := d.gone
  exact ⟨⟨d.sameK fun b o e n => k b o e fun z => n (.inl z), d.un, d.nod, upd_same, d.net, d.ways, kl _ _ d.told (fun _ _ _ z => by cases z), d.post, ⟨as, kl _ _ h1 (fun _ _ _ z => by cases z), h2⟩, kl _ _ d.closed (fun _ _ _ z => by cases z), ⟨qs, kl _ _ g1 (fun _ _ _ z => by cases z), g2⟩, d.ne⟩, ⟨fun b o e n => k b o e fun z => n (.inl z), fun b m => .inl m⟩⟩
/-- more bags -/
theorem DayAt.putG {c : Cs} {H : Hp} {p : Addr} {A : Da} {D : Dy} {qs qs2 : List Addr} {bs : List Bg} (d : DayAt c H p A D) (e : H A.pg = some (.lst (qs.map V.ref))) (g : Paired (BgAt A.G) qs D.bs) (g2 : Paired (BgAt A.G) qs2 bs) :
    DayAt c (upd H A.pg (.lst (qs.map V.ref ++ qs2.map V.ref))) p A { D with bs := D.bs ++ bs } ∧ Own H (upd H A.pg (.lst (qs.map V.ref ++ qs2.map V.ref))) p A A := by
  have k : ∀ b o, H b = some o → b ≠ A.pg → (upd H A.pg (.lst (qs.map V.ref ++ qs2.map V.ref))) b = some o := fun b o e n => by rw [upd_ne n]; exact e
  obtain ⟨as, h1, h2⟩ := d.stood
  exact ⟨⟨d.sameK fun b o e n => k b o e fun z => n (.inr (.inr (.inr (.inr z)))), d.un, d.nod, k _ _ d.po (ne_of d.po e (by intro z; cases z)), d.net, d.ways, k _ _ d.told (ne_of d.told e (by intro z; cases z)), d.post, ⟨as, k _ _ h1 d.ne, h2⟩, k _ _ d.closed (ne_of d.closed e (by intro z; cases z)), ⟨qs ++ qs2, by rw [upd_same, List.map_append], Paired.app g g2⟩, d.ne⟩, ⟨fun b o e n => k b o e fun z => n (.inr (.inr (.inr (.inr z)))), fun b m => .inl m⟩⟩
def settled (N : Nt) (lts : List Lt) (sps : List Spt) (t : Int) : List Spt := (lts.zip sps).map fun x => laterM N x.1 x.2 t
theorem settled_at {N : Nt} {lts : List Lt} {sps : List Spt} {t : Int} {i : Nat} {lt : Lt} {sp : Spt} (h1 : lts[i]? = some lt) (h2 : sps[i]? = some sp) : (settled N lts sps t)[i]? = some (laterM N lt sp t) := by
  unfold settled
  have e : (lts.zip sps)[i]? = some (lt, sp) := List.getElem?_zip_eq_some.mpr ⟨h1, h2⟩
  rw [List.getElem?_map, e]
  rfl
theorem settled_len {N : Nt} {lts : List Lt} {sps : List Spt} {t : Int} (h : lts.length = sps.length) : (settled N lts sps t).length = lts.length := by
  unfold settled
  rw [List.length_map, List.length_zip, h, Nat.min_self]
theorem settled_take {N : Nt} {lts : List Lt} {sps : List Spt} {t : Int} {i : Nat} {lt : Lt} {sp : Spt} (h1 : lts[i]? = some lt) (h2 : sps[i]? = some sp) : settled N (lts.take (i + 1)) (sps.take (i + 1)) t = settled N (lts.take i) (sps.take i) t ++ [laterM N lt sp t] := by
  have l1 := lt_of_at h1
  have l2 := lt_of_at h2
  unfold settled
  rw [take_snoc h1, take_snoc h2, List.zip_append (by rw [List.length_take, List.length_take]; omega), List.map_append]
  rfl
def SpOk (N : Nt) (sps : List Spt) : Prop := ∀ r due, Spt.rd r due ∈ sps → ∃ l, N.lines[r]? = some l
section
variable {P : Program} {w : World} {K : PySem.W.Frag} {mg : Str → Option Value} {base : Heap} {c : Cs}
def spPost (c : Cs) : Sp := fun vs H Q _ => ∃ (p : Addr) (A : Da) (D : Dy) (h g : Str), vs = [.ref p, .str h, .str g] ∧ DayAt c H p A D ∧ D.lts.length < 40 ∧ (∀ t ∈ D.lts ++ [⟨h, D.tn, g⟩], LtOk D.N t) ∧ (∀ t ∈ D.lts, t.tn ≤ D.tn ∧ D.tn - t.tn ≤ 30) ∧ (∀ t ∈ D.lts, ∀ u ∈ D.lts, t.tn - u.tn ≤ 30) ∧ D.sps.length ≤ 40 ∧
  ∀ H' A' v, Own H H' p A A' → DayAt c H' p A' { D with lts := D.lts ++ [⟨h, D.tn, g⟩], sps := D.sps ++ [.ah h D.tn] } → Q v H'
theorem ok_Day_post (T : Txt K mg c) : C8.Met P w K mg base 4 c.day "post" (spPost c) [] := by
  refine met_of T.cl_Day T.d_Day_post sc_Day_post (fun _ _ _ _ _ _ us hl => match us, hl with | [_, _, _], _ => rfl) (fun vs H Q E h => ?_) (fun f cdv A outer s H vs Q E hr h => ?_)
  · obtain ⟨p, A, D, h, g, rfl, _⟩ := h
    rfl
  · obtain ⟨p, A, D, h, g, rfl, d, few, ok, old, span, fews, k⟩ := h
    have hu := hu_of hr
    have T_letters_of := ok_letters_of (P := P) (w := w) (base := base) T
    have T_AtHouse := ok_AtHouse_init (P := P) (w := w) (base := base) T
    refine ⟨_, (pss_cons (ps_fld (pv 0) (C8.pe_c T_letters_of hr (by decide) rfl (pa_cons (pe_fld (pv 0) rfl) (pa_cons (pe_op op_cat (pe_fld (pv 0) rfl) (pe_lst (pa_cons (pe_tup (pa_cons (pv 1) (pa_cons (pe_fld (pv 0) rfl) (pa_cons (pv 2) pa_nil)))) pa_nil))) pa_nil))) rfl)
  (pss_cons (ps_expr (pe_bm PySem.F.plainAttrs_list PySem.F.slot_list_append PySem.F.type_list_append mt_append (pe_fld (pv 0) rfl) (pa_cons (C8.pe_mk T_AtHouse hr (by decide) rfl (pa_cons (pv 1) (pa_cons (pe_fld (pv 0) rfl) pa_nil))) pa_nil)))
  (pss_one (ps_ret (pe_op op_sub (pe_callB call_len_seq (by rfl) T.b_len PySem.boot_len (pa_cons (pe_fld (pv 0) rfl) pa_nil)) pe_int))))), ?_⟩
    obtain ⟨ls, l1, l2⟩ := d.post
    have hl := d.same _ _ l1
    refine ⟨_, rfl, p, c.day, _, _, _, rfl, d.po, T.cl_Day, T.n_Day_net, lk_Day_net, ?_⟩
    refine ⟨_, rfl, p, c.day, _, _, _, rfl, d.po, T.cl_Day, T.n_Day_posted, lk_Day_posted, ?_⟩
    refine ⟨_, rfl, _, rfl, p, c.day, _, _, _, rfl, d.po, T.cl_Day, T.n_Day_turn, lk_Day_turn, _, rfl, (by show 3 ≤ sizeLine; decide), fun q hq => ?_⟩
    have s1 : Same H (upd H q (.tup [.str h, .int D.tn, .str g])) := Same.new hq
    have q1 : (upd H q (.tup [.str h, .int D.tn, .str g])) q = some (.tup [.str h, .int D.tn, .str g]) := upd_same
    refine ⟨by show 1 ≤ sizeLine; decide, fun b hb => ?_⟩
    generalize upd H q (.tup [.str h, .int D.tn, .str g]) = H1 at s1 q1 hb ⊢
    have s2 : Same H1 (upd H1 b (.lst [.ref q])) := Same.new hb
    have b2 : (upd H1 b (.lst [.ref q])) b = some (.lst [.ref q]) := upd_same
    generalize upd H1 b (.lst [.ref q]) = H2 at s2 b2 ⊢
    have lsl := l2.length
    refine ⟨A.pp, b, _, _, rfl, rfl, s2 _ _ (s1 _ _ hl), b2, sz_le (by rw [List.length_map]; simp only [List.length_cons, List.length_nil]; omega), fun a ha => ?_⟩
    have s3 : Same H2 (upd H2 a (.lst (ls.map V.ref ++ [.ref q]))) := Same.new ha
    have a3 : (upd H2 a (.lst (ls.map V.ref ++ [.ref q]))) a = some (.lst ((ls ++ [q]).map V.ref)) := by rw [upd_same, List.map_append] <;> rfl
    generalize upd H2 a (.lst (ls.map V.ref ++ [.ref q])) = H3 at s3 a3 ⊢
    have s03 := s1.trans (s2.trans s3)
    have pl3 : Paired (LtAt H3) (ls ++ [q]) (D.lts ++ [⟨h, D.tn, g⟩]) := Paired.app (L2.Paired.mapP l2 fun _ _ => LtAt.mono (d.same.trans s03)) (.cons (s3 _ _ (s2 _ _ q1)) .nil)
    refine ⟨A.pn, D.N, a, ls ++ [q], D.lts ++ [⟨h, D.tn, g⟩], rfl, d.net.mono (d.same.trans s03), a3, pl3, ok, (by rw [List.length_append]; simp only [List.length_cons, List.length_nil]; omega), by simp, fun t ht u hu' => ?_, fun H4 l s4 hl4 e4 => ?_⟩
    · rcases List.mem_append.mp ht with ht | ht <;> rcases List.mem_append.mp hu' with hu' | hu'
      · exact span t ht u hu'
      · rw [List.mem_singleton.mp hu']
        have := (old t ht).1
        show t.tn - D.tn ≤ 30
        omega
      · rw [List.mem_singleton.mp ht]
        exact (old u hu').2
      · rw [List.mem_singleton.mp ht, List.mem_singleton.mp hu']
        show D.tn - D.tn ≤ 30
        omega
    -- self.posted = ..
    have s04 := s03.trans s4
    have d4 := d.mono s04
    refine ⟨_, rfl, p, c.day, _, _, rfl, d4.po, T.cl_Day, T.n_Day_posted, (by show 7 < 1000; decide), ?_⟩
    rw [pf_Day_posted]
    generalize hH5 : upd H4 p (HO.ins c.day A.dx (dayF (.ref A.pn) (.int D.tn) (.ref A.pw) (.ref l) (.ref A.ps) (.ref A.pc) (.ref A.pg))) = H5
    have k5 : ∀ b o, H4 b = some o → b ≠ p → H5 b = some o := fun b o e n => by rw [← hH5, upd_ne n]; exact e
    have p5 : H5 p = some (.ins c.day A.dx (dayF (.ref A.pn) (.int D.tn) (.ref A.pw) (.ref l) (.ref A.ps) (.ref A.pc) (.ref A.pg))) := by rw [← hH5, upd_same]
    clear hH5
    obtain ⟨as, t1, t2⟩ := d4.stood
    have t5 := k5 _ _ t1 (ne_of d4.po t1 (by intro z; cases z)).symm
    -- self.stood.append(AtHouse(house, self.turn))
    refine ⟨_, rfl, p, c.day, _, _, _, rfl, p5, T.cl_Day, T.n_Day_stood, lk_Day_stood, .inl ⟨rfl, _, SqL.of t5⟩, _, rfl, _, rfl, p, c.day, _, _, _, rfl, p5, T.cl_Day, T.n_Day_turn, lk_Day_turn, ?_⟩
    intro x dx hx hdx ne
    refine ⟨x, dx, _, _, rfl, upd_same, rfl, ?_⟩
    have s6 := made_same (C := c.atHouse) (o := .ins c.atHouse dx (atHouseF (.str h) (.int D.tn))) (u := .ins c.atHouse dx []) hx hdx
    have x6 : (upd (upd (upd H5 dx (.own x)) x (.ins c.atHouse dx [])) x (.ins c.atHouse dx (atHouseF (.str h) (.int D.tn)))) x = some (.ins c.atHouse dx (atHouseF (.str h) (.int D.tn))) := upd_same
    generalize upd (upd (upd H5 dx (.own x)) x (.ins c.atHouse dx [])) x (.ins c.atHouse dx (atHouseF (.str h) (.int D.tn))) = H6 at s6 x6 ⊢
    have tl := t2.length
    refine ⟨A.ps, _, _, rfl, rfl, s6 _ _ t5, sz_lt (by rw [List.length_map, tl]; omega), ?_⟩
    generalize hH7 : upd H6 A.ps (.lst (as.map V.ref ++ [.ref x])) = H7
    have k7 : ∀ b o, H6 b = some o → b ≠ A.ps → H7 b = some o := fun b o e n => by rw [← hH7, upd_ne n]; exact e
    have ps7 : H7 A.ps = some (.lst ((as ++ [x]).map V.ref)) := by rw [← hH7, upd_same, List.map_append] <;> rfl
    have sps : A.ps ≠ p := (ne_of d4.po t1 (by intro z; cases z)).symm
    have k47 : ∀ b o, H4 b = some o → b ≠ p → b ≠ A.ps → H7 b = some o := fun b o e n1 n2 => k7 b o (s6 _ _ (k5 b o e n1)) n2
    have tup7 : ∀ b u, H4 b = some (.tup u) → H7 b = some (.tup u) := fun b u e => k47 b _ e (fun z => mut_tup d4 e (.inl z)) (fun z => mut_tup d4 e (.inr (.inr (.inl z))))
    have ins7 : ∀ b C y fs, H4 b = some (.ins C y fs) → fs.length ≠ 7 → H7 b = some (.ins C y fs) := fun b C y fs e n => k47 b _ e (fun z => mut_ins d4 e n (.inl z)) (fun z => mut_ins d4 e n (.inr (.inr (.inl z))))
    have dct7 : ∀ b o, H4 b = some o → isD o = true → H7 b = some o := fun b o e n => k47 b _ e (fun z => by rw [z, d4.po] at e; cases e; cases n) (fun z => by rw [z, t1] at e; cases e; cases n)
    obtain ⟨qs, g1, g2⟩ := d4.gone
    have lp : l ≠ p := fun z => by rw [z, d4.po] at e4; cases e4
    have hlH : H l = none := s03.free hl4
    have lps : l ≠ A.ps := fun z => by
      obtain ⟨_, z1, _⟩ := d.stood
      rw [z, z1] at hlH; cases hlH
    have lpg : l ≠ A.pg := fun z => by
      obtain ⟨_, z1, _⟩ := d.gone
      rw [z, z1] at hlH; cases hlH
    have xps : x ≠ A.ps := ne_of x6 (s6 _ _ t5) (by intro z; cases z)
    obtain ⟨A', hA'⟩ : ∃ A' : Da, A' = ⟨grow (Mut { A with pp := l } p) H7, A.dx, A.pn, A.wx, A.pw, A.pt, l, A.ps, A.pc, A.pg⟩ := ⟨_, rfl⟩
    have D7 : DayAt c H7 p A' { D with lts := D.lts ++ [⟨h, D.tn, g⟩], sps := D.sps ++ [.ah h D.tn] } := by
      rw [hA']
      refine DayAt.regrow (G0 := A.G) rfl (fun b o e => k47 b o (d4.same _ _ e) (fun z => by rw [z, d.un p (.inl rfl)] at e; cases e) (fun z => by rw [z, d.un A.ps (.inr (.inr (.inl rfl)))] at e; cases e)) (fun b m => d.un b m) d.nod (k7 _ _ (s6 _ _ p5) sps.symm) d.net d.ways (dct7 _ _ d4.told rfl)
        ⟨ls ++ [q], k47 _ _ e4 lp lps, L2.Paired.mapP pl3 fun b t e => tup7 _ _ (s4 _ _ e)⟩ lps lpg ⟨as ++ [x], ps7, Paired.app (L2.Paired.mapP t2 fun b t ⟨dy, e⟩ => ⟨dy, ins7 _ _ _ _ (d4.same _ _ e) (Spt_fs_len t)⟩) (.cons ⟨dx, k7 _ _ x6 xps⟩ .nil)⟩ (dct7 _ _ d4.closed rfl)
        ⟨qs, k47 _ _ g1 (ne_of g1 d4.po (by intro z; cases z)) d.ne.symm, L2.Paired.mapP g2 fun b t ⟨q, e1, e2⟩ => ⟨q, tup7 _ _ (d4.same _ _ e1), tup7 _ _ (d4.same _ _ e2)⟩⟩ d.ne
    have O7 : Own H H7 p A A' := by
      rw [hA']
      exact ⟨fun b o e n => k47 b o (s04 _ _ e) (fun z => n (.inl z)) (fun z => n (.inr (.inr (.inl z)))), fun b m => .inl m⟩
    -- return len(self.posted) - 1
    refine ⟨_, rfl, p, c.day, _, _, _, rfl, D7.po, T.cl_Day, T.n_Day_posted, lk_Day_posted, _, _, rfl, .inl (by rw [hA']; exact SqL.of (k47 _ _ e4 lp lps)), _, _, rfl, rfl, ?_⟩
    exact k H7 A' _ O7 D7
def spSettle (c : Cs) : Sp := fun vs H Q _ => ∃ (p : Addr) (A : Da) (D : Dy), vs = [.ref p] ∧ DayAt c H p A D ∧ D.lts.length = D.sps.length ∧ D.lts.length ≤ 40 ∧ SpOk D.N D.sps ∧
  ∀ H' A', Own H H' p A A' → DayAt c H' p A' { D with sps := settled D.N D.lts D.sps D.tn } → Q .non H'
theorem ok_Day_settle (T : Txt K mg c) : C8.Met P w K mg base 4 c.day "settle" (spSettle c) [] := by
  refine met_of T.cl_Day T.d_Day_settle sc_Day_settle (fun _ _ _ _ _ _ us hl => match us, hl with | [_], _ => rfl) (fun vs H Q E h => ?_) (fun f cdv A outer s H vs Q E hr h => ?_)
  · obtain ⟨p, A, D, rfl, _⟩ := h
    rfl
  · obtain ⟨p, A, D, rfl, d, len, few, spo, k⟩ := h
    have hu := hu_of hr
    have T_later := ok_later (P := P) (w := w) (base := base) T
    refine ⟨_, (pss_one (ps_fld (pv 0) (pe_lc (own := [("one", 1), ("spot", 2)]) rfl sc_Day_settle.nd (pi_zip (by rfl) T.b_zip (pa_cons (pe_fld (pv 0) rfl) (pa_cons (pe_fld (pv 0) rfl) pa_nil))) (blkOk_by (own := [("one", 1), ("spot", 2)]) (N := N_Day_settle) (sc := defScope s_Day_settle) (by decide +kernel)) (fun _ _ _ _ _ => by exact (pg_tupK (K := K) 2 rfl rfl (pgs_cons (pg_name (i := 1) sc_Day_settle.nd rfl (Or.inl rfl)) (pgs_cons (pg_name (i := 2) sc_Day_settle.nd rfl (Or.inl rfl)) pgs_nil)))) (fun _ _ _ _ _ => by exact pts_nil) (fun _ _ _ _ _ => by exact (C8.pe_c T_later hr (by decide) rfl (pa_cons (pe_fldK (K := K) rfl (pv 0) rfl) (pa_cons (pv 1) (pa_cons (pv 2) (pa_cons (pe_fldK (K := K) rfl (pv 0) rfl) pa_nil))))))) rfl)), ?_⟩
    obtain ⟨ls, l1, l2⟩ := d.post
    obtain ⟨as, t1, t2⟩ := d.stood
    refine ⟨_, rfl, p, c.day, _, _, _, rfl, d.po, T.cl_Day, T.n_Day_posted, lk_Day_posted, _, rfl, p, c.day, _, _, _, rfl, d.po, T.cl_Day, T.n_Day_stood, lk_Day_stood, A.pp, A.ps, _, _, rfl, SqL.of (d.same _ _ l1), SqL.of t1, fun Dl hD => ?_⟩
    have ll := l2.length
    have tl := t2.length
    refine lc_it (walk_zip (xs := ls.map V.ref) (ys := as.map V.ref) (n := D.lts.length) (by rw [List.length_map, List.length_map]; omega)) (fun i H' => ∃ bs : List Addr, Same H H' ∧ H' Dl = some (.lst (bs.map V.ref)) ∧ Paired (SptAt c H') bs (settled D.N (D.lts.take i) (D.sps.take i) D.tn)) ⟨[], Same.new hD, upd_same, .nil⟩ (fun _ _ _ ⟨_, s, _, _⟩ => ⟨SqL.of (s _ _ (d.same _ _ l1)), SqL.of (s _ _ t1)⟩) ?_ ?_
    · rintro i x H1 H2 hi ⟨bs, s, d1, pb⟩ ⟨U, x1, x2, rfl, hU, rfl, e1, e2⟩
      obtain ⟨la, ha, rfl⟩ := map_of e1
      obtain ⟨sa, hb, rfl⟩ := map_of e2
      obtain ⟨lt, hlt, hla⟩ := Paired.at_l l2 ha
      obtain ⟨sp, hsp, hsa⟩ := Paired.at_l t2 hb
      have s2 : Same H1 (upd H1 U (.tup [.ref la, .ref sa])) := Same.new hU
      have u2 : (upd H1 U (.tup [.ref la, .ref sa])) U = some (.tup [.ref la, .ref sa]) := upd_same
      generalize upd H1 U (.tup [.ref la, .ref sa]) = H2 at s2 u2 ⊢
      have sH2 := s.trans s2
      have d2 := d.mono sH2
      refine ⟨U, _, rfl, SqT.of u2, rfl, _, _, rfl, _, _, rfl, rfl, rfl, ?_⟩
      refine ⟨_, rfl, p, c.day, _, _, _, rfl, d2.po, T.cl_Day, T.n_Day_net, lk_Day_net, _, rfl, _, rfl, _, rfl, p, c.day, _, _, _, rfl, d2.po, T.cl_Day, T.n_Day_turn, lk_Day_turn, ?_⟩
      refine ⟨A.pn, D.N, la, lt, sa, sp, D.tn, rfl, d2.net.mono d2.same, hla.mono d2.same, hsa.mono d2.same, fun r due e => spo r due (by rw [← e]; exact List.mem_of_getElem? hsp), fun a' H3 s3 sp3 _ => ?_⟩
      have bl : bs.length = i := by
        rw [pb.length, settled_len (by rw [List.length_take, List.length_take]; omega), List.length_take]
        omega
      refine ⟨_, s3 _ _ (s2 _ _ d1), sz_lt (by rw [List.length_map]; omega), bs ++ [a'], (sH2.trans s3).mut hD, ?_, ?_⟩
      · rw [upd_same, List.map_append]
        rfl
      · rw [settled_take hlt hsp]
        have e3 := s3 _ _ (s2 _ _ d1)
        exact Paired.app (L2.Paired.mapP pb fun b t h => Spt_mut e3 (h.mono (s2.trans s3))) (.cons (Spt_mut e3 sp3) .nil)
    · rintro H1 ⟨bs, s, d1, pb⟩
      rw [List.take_length, len, List.take_length] at pb
      obtain ⟨A', z1, z2, z3, z4, z5, z6, z7, z8, D', O', _⟩ := d.newS s hD d1 pb
      refine ⟨_, rfl, p, c.day, _, _, rfl, (d.mono s).po, T.cl_Day, T.n_Day_stood, (by show 7 < 1000; decide), ?_⟩
      rw [pf_Day_stood]
      have eo : dayO c A' D = HO.ins c.day A.dx (dayF (.ref A.pn) (.int D.tn) (.ref A.pw) (.ref A.pp) (.ref Dl) (.ref A.pc) (.ref A.pg)) := by
        unfold dayO
        rw [z1, z2, z3, z4, z6, z7, z8]
      rw [← eo]
      exact k _ A' O' D'
def spSpot (c : Cs) : Sp := fun vs H Q _ => ∃ (p : Addr) (A : Da) (D : Dy) (n : Nat) (lt : Lt) (sp : Spt), vs = [.ref p, nat n] ∧ DayAt c H p A D ∧ D.lts[n]? = some lt ∧ D.sps[n]? = some sp ∧ SpOk D.N D.sps ∧
  ∀ a H', Same H H' → SptAt c H' a (laterM D.N lt sp D.tn) → Q (.ref a) H'
theorem ok_Day_spot (T : Txt K mg c) : C8.Met P w K mg base 4 c.day "spot" (spSpot c) [] := by
  refine met_of T.cl_Day T.d_Day_spot sc_Day_spot (fun _ _ _ _ _ _ us hl => match us, hl with | [_, _], _ => rfl) (fun vs H Q E h => ?_) (fun f cdv A outer s H vs Q E hr h => ?_)
  · obtain ⟨p, A, D, n, lt, sp, rfl, _⟩ := h
    rfl
  · obtain ⟨p, A, D, n, lt, sp, rfl, d, h1, h2, spo, k⟩ := h
    have hu := hu_of hr
    have T_later := ok_later (P := P) (w := w) (base := base) T
    refine ⟨_, (pss_cons (ps_if (pt_not (pt_chain op_le op_lt pe_int (pv 1) (pe_callB call_len_seq (by rfl) T.b_len PySem.boot_len (pa_cons (pe_fld (pv 0) rfl) pa_nil)))) (pss_one ps_never) pss_nil)
  (pss_one (ps_ret (C8.pe_c T_later hr (by decide) rfl (pa_cons (pe_fld (pv 0) rfl) (pa_cons (pe_ix ix_list (pe_fld (pv 0) rfl) (pv 1) (fun _ _ => rfl)) (pa_cons (pe_ix ix_list (pe_fld (pv 0) rfl) (pv 1) (fun _ _ => rfl)) (pa_cons (pe_fld (pv 0) rfl) pa_nil)))))))), ?_⟩
    obtain ⟨ls, l1, l2⟩ := d.post
    obtain ⟨as, t1, t2⟩ := d.stood
    obtain ⟨la, hla, pla⟩ := Paired.at_r l2 h1
    obtain ⟨sa, hsa, psa⟩ := Paired.at_r t2 h2
    have ln := lt_of_at hla
    have l1' := d.same _ _ l1
    have vpo : Val (tFld K (tVar 0) "posted") [some (.ref p), some (nat n)] H (.ref A.pp) := val_fld (val_var rfl) d.po T.cl_Day T.n_Day_posted lk_Day_posted
    have vst : Val (tFld K (tVar 0) "stood") [some (.ref p), some (nat n)] H (.ref A.ps) := val_fld (val_var rfl) d.po T.cl_Day T.n_Day_stood lk_Day_stood
    refine sq_no (Ans.to (ans_not (ans_test (v_lelt (i := 0) (j := (n : Int)) val_c (val_var rfl) (v_lenL (SqL.of l1') vpo)))) (by
      rw [List.length_map, decide_eq_true (show (0 : Int) ≤ (n : Int) by omega), decide_eq_true (show (n : Int) < (ls.length : Int) by omega)]
      rfl)) ?_
    refine ⟨_, rfl, p, c.day, _, _, _, rfl, d.po, T.cl_Day, T.n_Day_net, lk_Day_net, ?_⟩
    refine (v_ixL (i := (n : Int)) (SqL.of l1') vpo (val_var rfl) (atI_nat (refs_at hla))) _ ?_
    refine (v_ixL (i := (n : Int)) (SqL.of t1) vst (val_var rfl) (atI_nat (refs_at hsa))) _ ?_
    refine ⟨_, rfl, p, c.day, _, _, _, rfl, d.po, T.cl_Day, T.n_Day_turn, lk_Day_turn, ?_⟩
    exact ⟨A.pn, D.N, la, lt, sa, sp, D.tn, rfl, d.net.mono d.same, pla.mono d.same, psa.mono d.same, fun r due e => spo r due (by rw [← e]; exact List.mem_of_getElem? h2), fun a' H3 s3 sp3 _ => k a' H3 s3 sp3⟩
end
end PR
set_option Elab.async false
set_option maxRecDepth 100000
set_option linter.all false
set_option maxHeartbeats 1000000
/-! The day: pass_turn. -/
namespace PR
open PySem PySem.Spec PyProof.Rows L2
/-- what one turn sends -/
structure Sent (D : Dy) (tf : Str → Str → Option Nat) (b : Bg) : Prop where
  tn : b.tn = D.tn
  op : ∀ kv ∈ D.kc, kv.1 ≠ Sum.inl (b.rd : Int)
  ne : b.ns ≠ []
  up : b.ns.Pairwise (· < ·)
  at_ : ∃ l, D.N.lines[b.rd]? = some l ∧ (b.ns.length : Int) ≤ l.rm
  wants : ∀ n ∈ b.ns, ∃ s, Wants (settled D.N D.lts D.sps D.tn) D.lts tf s n b.rd
theorem drop_wn (es : List Wn) (k : Key) : dropK (wnKV es) k = wnKV (es.filter fun e => decide ((Sum.inl (e.rd : Int) : Key) ≠ k)) := by
  unfold dropK wnKV
  rw [List.filter_map]
  rfl
theorem rgV_nat (n : Nat) : rgV 0 (n : Int) = (List.range n).map nat := by
  unfold rgV
  have e : ((n : Int) - 0).toNat = n := by omega
  rw [e]
  exact List.map_congr_left fun i _ => by
    show V.int (0 + (i : Int)) = .int (i : Int)
    rw [Int.zero_add]
section
variable {P : Program} {w : World} {K : PySem.W.Frag} {mg : Str → Option Value} {base : Heap} {c : Cs}
def spPass (c : Cs) : Sp := fun vs H Q _ => ∃ (p : Addr) (A : Da) (D : Dy) (tf : Str → Str → Option Nat), vs = [.ref p] ∧ DayAt c H p A D ∧ D.lts.length = D.sps.length ∧ D.lts.length ≤ 40 ∧ SpOk D.N D.sps ∧ D.bs.length ≤ 10000 ∧ RepT D.kt tf ∧ TfOk D.N tf ∧ NtOk D.N ∧
  ∀ v H' A' bs, Own H H' p A A' → DayAt c H' p A' { D with tn := D.tn + 1, sps := leftM D.N (settled D.N D.lts D.sps D.tn) bs, bs := D.bs ++ bs } → (∀ b ∈ bs, Sent D tf b) → bs.Pairwise (fun a b => a.rd < b.rd) → bs.length ≤ 40 → Q v H'
theorem ok_Day_pass_turn (T : Txt K mg c) : C8.Met P w K mg base 5 c.day "pass_turn" (spPass c) [] := by
  refine met_of T.cl_Day T.d_Day_pass_turn sc_Day_pass_turn (fun _ _ _ _ _ _ us hl => match us, hl with | [_], _ => rfl) (fun vs H Q E h => ?_) (fun f cdv A outer s H vs Q E hr h => ?_)
  · obtain ⟨p, A, D, tf, rfl, _⟩ := h
    rfl
  · obtain ⟨p, A, D, tf, rfl, d, len, few, spo, fewb, rep, tok, nok, k⟩ := h
    have hu := hu_of hr
    have T_Day_settle := ok_Day_settle (P := P) (w := w) (base := base) T
    have T_going := ok_going (P := P) (w := w) (base := base) T
    have T_bags_of := ok_bags_of (P := P) (w := w) (base := base) T
    have T_left_behind := ok_left_behind (P := P) (w := w) (base := base) T
    refine ⟨_, (pss_cons (ps_expr (C8.pe_mt0 T_Day_settle hr (by decide) (pv 0)))
  (pss_cons (ps_set (i := 1) sc_Day_pass_turn.nd rfl (Or.inl rfl) (C8.pe_c T_going hr (by decide) rfl (pa_cons (pe_fld (pv 0) rfl) (pa_cons (pe_fld (pv 0) rfl) (pa_cons (pe_fld (pv 0) rfl) (pa_cons (pe_listRg rfl rfl T.b_list (prg_1 rfl T.b_range (pe_callB call_len_seq (by rfl) T.b_len PySem.boot_len (pa_cons (pe_fld (pv 0) rfl) pa_nil)))) pa_nil))))))
  (pss_cons (ps_lock (ps_for PassesOwn.never rfl (pi_keys (pe_fld (pv 0) rfl)) (pg_name (i := 2) sc_Day_pass_turn.nd rfl (Or.inl rfl)) (pss_one (ps_expr (pe_dpop2 (pv 1) (pv 2) pe_non ⟨rfl, rfl, rfl, rfl⟩)))))
  (pss_cons (ps_set (i := 3) sc_Day_pass_turn.nd rfl (Or.inl rfl) (C8.pe_c T_bags_of hr (by decide) rfl (pa_cons (pe_fld (pv 0) rfl) (pa_cons (pv 1) (pa_cons (pe_fld (pv 0) rfl) pa_nil)))))
  (pss_cons (ps_fld (pv 0) (C8.pe_c T_left_behind hr (by decide) rfl (pa_cons (pe_fld (pv 0) rfl) (pa_cons (pe_fld (pv 0) rfl) (pa_cons (pv 3) pa_nil)))) rfl)
  (pss_cons (ps_expr (pe_bm PySem.F.plainAttrs_list PySem.F.slot_list_extend PySem.F.type_list_extend mt_extend (pe_fld (pv 0) rfl) (pa_cons (pv 3) pa_nil)))
  (pss_cons (ps_fldaug (pv 0) pe_int in_add)
  (pss_one (ps_ret (pv 3)))))))))), ?_⟩
    refine ⟨_, rfl, p, A.dx, _, rfl, d.po, ln_Day_settle, p, A, D, rfl, d, len, few, spo, fun H1 A1 O1 d1 => ?_⟩
    generalize hsp : settled D.N D.lts D.sps D.tn = sps1 at d1
    rw [hsp] at k
    have lsp : sps1.length = D.lts.length := by rw [← hsp]; exact settled_len len
    obtain ⟨ls, l1, l2⟩ := d1.post
    obtain ⟨as, t1, t2⟩ := d1.stood
    have l1' := d1.same _ _ l1
    -- wanted = going(..)
    refine ⟨_, rfl, p, c.day, _, _, _, rfl, d1.po, T.cl_Day, T.n_Day_posted, lk_Day_posted, _, rfl, p, c.day, _, _, _, rfl, d1.po, T.cl_Day, T.n_Day_stood, lk_Day_stood, _, rfl, p, c.day, _, _, _, rfl, d1.po, T.cl_Day, T.n_Day_ways, lk_Day_ways, ?_⟩
    refine ⟨_, rfl, p, c.day, _, _, _, rfl, d1.po, T.cl_Day, T.n_Day_posted, lk_Day_posted, A1.pp, _, rfl, .inl (SqL.of l1'), (D.lts.length : Int), (by rw [List.length_map, l2.length]), RgOk.of_le (by omega) (by omega) (by omega) (by omega), fun np hnp => ?_⟩
    rw [rgV_nat]
    have s2 : Same H1 (upd H1 np (.lst ((List.range D.lts.length).map nat))) := Same.new hnp
    have e2 : (upd H1 np (.lst ((List.range D.lts.length).map nat))) np = some (.lst ((List.range D.lts.length).map nat)) := upd_same
    generalize upd H1 np (.lst ((List.range D.lts.length).map nat)) = H2 at s2 e2 ⊢
    have d2 := d1.mono s2
    refine ⟨A1.pp, A1.ps, A1.pw, np, ls, as, D.lts, sps1, A1.wx, A1.pn, A1.pt, D.kt, tf, D.lts.length, rfl, d2.same _ _ l1, L2.Paired.mapP l2 fun _ _ => LtAt.mono d2.same, s2 _ _ t1, L2.Paired.mapP t2 fun _ _ => SptAt.mono d2.same, d2.same _ _ d2.ways, d2.told, rep, e2, few, rfl, lsp.symm, fun H3 wd es W ok => ?_⟩
    have d3 := d2.mono W.same
    have nwd : ∀ {b o}, H2 b = some o → b ≠ wd := fun e => ne_of_none e W.dn
    have wpc : A1.pc ≠ wd := nwd d2.closed
    -- for road in self.closed: wanted.pop(road, None)
    refine ⟨A1.pc, _, d3.closed, trivial, fun od => ?_⟩
    have k4 : ∀ b o, H3 b = some o → b ≠ A1.pc → (upd H3 A1.pc (.frz od (.dK D.kc))) b = some o := fun b o e n => by rw [upd_ne n]; exact e
    refine ⟨_, rfl, p, c.day, _, _, _, rfl, k4 _ _ d3.po (ne_of d3.po d3.closed (by intro z; cases z)), T.cl_Day, T.n_Day_closed, lk_Day_closed, A1.pc, od, rfl, .inl ⟨D.kc, upd_same, ?_⟩⟩
    refine for_it walk_keys (fun i σ H' => ∃ (es' : List Wn) (o2 : Option V), σ = [some (.ref p), some (.ref wd), o2, none] ∧ (∀ b o, H3 b = some o → b ≠ wd → b ≠ A1.pc → H' b = some o) ∧ H' A1.pc = some (.frz od (.dK D.kc)) ∧ H' wd = some (.dK (wnKV es')) ∧ es'.Sublist es ∧ ∀ kv ∈ D.kc.take i, ∀ e ∈ es', (Sum.inl (e.rd : Int) : Key) ≠ kv.1)
      ⟨es, _, rfl, (fun b o e _ n => k4 b o e n), upd_same, k4 _ _ W.dk wpc.symm, List.Sublist.refl _, (fun kv hk => nomatch hk)⟩ (fun i σ H' _ ⟨_, _, _, _, h, _⟩ => h) ?_ ?_
    · rintro i x σ H4 H5 hi ⟨es', o2, rfl, kk, hpc, hwd, sub, out⟩ ⟨rfl, key, v, hkv, rfl⟩
      have sub' : ∀ f : Wn → Bool, (es'.filter f).Sublist es := fun f => List.filter_sublist.trans sub
      have split : ∀ {es2 : List Wn}, (∀ e ∈ es2, e ∈ es' ∧ (Sum.inl (e.rd : Int) : Key) ≠ key) → ∀ kv ∈ D.kc.take (i + 1), ∀ e ∈ es2, (Sum.inl (e.rd : Int) : Key) ≠ kv.1 := fun {es2} h kv hk e he => by
        rw [take_snoc hkv] at hk
        rcases List.mem_append.mp hk with hk | hk
        · exact out kv hk e (h e he).1
        · rw [List.mem_singleton.mp hk]
          exact (h e he).2
      refine ⟨_, rfl, wd, rfl, .inl ⟨_, .inl hwd⟩, _, rfl, wnKV es', key, hwd, rfl, fun v' hv => ?_, fun hv => ?_⟩
      · rw [drop_wn]
        refine ⟨es'.filter fun e => decide ((Sum.inl (e.rd : Int) : Key) ≠ key), _, rfl, fun b o e n1 n2 => by rw [upd_ne n1]; exact kk b o e n1 n2, by rw [upd_ne wpc]; exact hpc, upd_same, sub' _, split fun e he => ?_⟩
        have := List.mem_filter.mp he
        exact ⟨this.1, of_decide_eq_true this.2⟩
      · refine ⟨es', _, rfl, kk, hpc, hwd, sub, split fun e he => ⟨he, fun z => ?_⟩⟩
        have nd : (es'.map (·.rd)).Nodup := ok.nd.sublist (sub.map _)
        have := wn_get nd he
        rw [z, hv] at this
        cases this
    · rintro σ H4 ⟨es', o2, rfl, kk, hpc, hwd, sub, out⟩
      rw [List.take_length] at out
      refine ⟨hpc, ?_⟩
      have k5 : ∀ b o, H3 b = some o → b ≠ wd → (upd H4 A1.pc (.dK D.kc)) b = some o := fun b o e n => by
        by_cases z : b = A1.pc
        · rw [z, upd_same]
          rw [z, d3.closed] at e
          exact e
        · rw [upd_ne z]
          exact kk b o e n z
      have w5 : (upd H4 A1.pc (.dK D.kc)) wd = some (.dK (wnKV es')) := by rw [upd_ne wpc.symm]; exact hwd
      generalize upd H4 A1.pc (.dK D.kc) = H5 at k5 w5 ⊢
      have s5 : Same H2 H5 := fun b o e => k5 b o (W.same _ _ e) (nwd e)
      have d5 := d2.mono s5
      have wns : WnS D.N H5 es' := by
        refine ⟨ok.nd.sublist (sub.map _), Nat.le_trans sub.length_le (Nat.le_trans ok.few few), fun e he => ?_⟩
        have he := sub.subset he
        obtain ⟨ts, p1, p2⟩ := W.ps e he
        refine ⟨⟨ts, k5 _ _ p1 (ne_of p1 W.dk (by intro z; cases z)), L2.Paired.mapP p2 fun a x z => k5 _ _ z (ne_of z W.dk (by intro z'; cases z'))⟩, ok.ne e he, Nat.le_trans (ok.len e he) few, ok.once e he, ?_⟩
        cases hx : e.xs with
        | nil => exact absurd hx (ok.ne e he)
        | cons x r =>
          obtain ⟨_, h, t, _, _, q3⟩ := ok.wants e he x (by rw [hx]; exact List.mem_cons_self)
          obtain ⟨l, z1, z2⟩ := tok h t.gl e.rd q3
          exact ⟨l, z1, (nok.ln l (List.mem_of_getElem? z1)).rm.1⟩
      -- bags = bags_of(..)
      refine ⟨_, rfl, p, c.day, _, _, _, rfl, d5.po, T.cl_Day, T.n_Day_net, lk_Day_net, _, rfl, _, rfl, p, c.day, _, _, _, rfl, d5.po, T.cl_Day, T.n_Day_turn, lk_Day_turn, ?_⟩
      refine ⟨A1.pn, wd, D.N, es', D.tn, rfl, d5.net.mono d5.same, w5, wns, fun H6 pb qs bs s6 hpb e6 pq from_ inc blen => ?_⟩
      have d6 := d5.mono s6
      have bok : ∀ b ∈ bs, Sent D tf b := fun b hb => by
        obtain ⟨q1, e, he, l, q2, q3, q4, q5, q6, q7⟩ := from_ b hb
        refine ⟨q1, fun kv hk => ?_, q4, q5, ⟨l, q3, q6⟩, fun n hn => ?_⟩
        · rw [← q2]
          exact (out kv hk e he).symm
        · obtain ⟨x, hx, rfl⟩ := List.mem_map.mp (q7 n hn)
          rw [hsp, ← q2]
          exact ⟨x.1, (ok.wants e (sub.subset he) x hx).2⟩
      -- self.stood = left_behind(..)
      refine ⟨_, rfl, p, c.day, _, _, _, rfl, d6.po, T.cl_Day, T.n_Day_net, lk_Day_net, _, rfl, p, c.day, _, _, _, rfl, d6.po, T.cl_Day, T.n_Day_stood, lk_Day_stood, _, rfl, ?_⟩
      have s26 : Same H2 H6 := s5.trans s6
      refine ⟨A1.pn, A1.ps, pb, D.N, as, qs, sps1, bs, rfl, d6.net.mono d6.same, s26 _ _ (s2 _ _ t1), L2.Paired.mapP t2 fun _ _ => SptAt.mono d6.same, e6, pq, fun b hb => ?_, fun H7 pa as7 s7 hpa e7 p7 => ?_⟩
      · obtain ⟨l, q3, _⟩ := (bok b hb).at_
        refine ⟨⟨l, q3⟩, fun n hn => ?_⟩
        obtain ⟨s, h, t, z1, _, _⟩ := (bok b hb).wants n hn
        rw [hsp] at z1
        exact lt_of_at z1
      obtain ⟨A', z1, z2, z3, z4, z5, z6, z7, z8, D', O', bg'⟩ := d6.newS s7 hpa e7 p7
      have d7 := d6.mono s7
      refine ⟨_, rfl, p, c.day, _, _, rfl, d7.po, T.cl_Day, T.n_Day_stood, (by show 7 < 1000; decide), ?_⟩
      rw [pf_Day_stood]
      have eo : dayO c A' { D with sps := sps1 } = HO.ins c.day A1.dx (dayF (.ref A1.pn) (.int D.tn) (.ref A1.pw) (.ref A1.pp) (.ref pa) (.ref A1.pc) (.ref A1.pg)) := by
        unfold dayO
        rw [z1, z2, z3, z4, z6, z7, z8]
      have eo' : HO.ins c.day A1.dx (dayF (.ref A1.pn) (.int D.tn) (.ref A1.pw) (.ref A1.pp) (.ref pa) (.ref A1.pc) (.ref A1.pg)) = dayO c A' { D with sps := sps1 } := eo.symm
      show tSeq _ _ _ _ (upd H7 p (HO.ins c.day A1.dx (dayF (.ref A1.pn) (.int D.tn) (.ref A1.pw) (.ref A1.pp) (.ref pa) (.ref A1.pc) (.ref A1.pg))))
      rw [eo']
      have k8 : ∀ b o, H7 b = some o → b ≠ p → (upd H7 p (dayO c A' { D with sps := sps1 })) b = some o := fun b o e n => by rw [upd_ne n]; exact e
      generalize upd H7 p (dayO c A' { D with sps := sps1 }) = H8 at D' O' k8 ⊢
      -- self.gone.extend(bags)
      obtain ⟨qs8, g1, g2⟩ := D'.gone
      have e8 := k8 _ _ (s7 _ _ e6) (ne_of (s7 _ _ e6) d7.po (by intro z; cases z))
      have ql := g2.length
      have ql2 := pq.length
      refine ⟨_, rfl, p, c.day, _, _, _, rfl, D'.po, T.cl_Day, T.n_Day_gone, lk_Day_gone, .inl ⟨rfl, _, SqL.of g1⟩, _, rfl, A'.pg, pb, qs8.map V.ref, qs.map V.ref, rfl, rfl, g1, e8, sz_le (by
        rw [List.length_map, List.length_map, ql2]
        have : qs8.length = D.bs.length := ql
        omega), ?_⟩
      obtain ⟨D9, O9⟩ := D'.putG g1 g2 (L2.Paired.mapP pq fun a b h => bg' a b (h.mono s7))
      generalize upd H8 A'.pg (.lst (qs8.map V.ref ++ qs.map V.ref)) = H9 at D9 O9 ⊢
      -- self.turn += 1
      refine ⟨_, rfl, p, c.day, _, _, _, rfl, D9.po, T.cl_Day, T.n_Day_turn, lk_Day_turn, D.tn, 1, rfl, rfl, _, _, D9.po, (by show 7 < 1000; decide), ?_⟩
      obtain ⟨D10, O10⟩ := D9.putN (t := D.tn + 1)
      rw [pf_Day_turn]
      have O05 : Own H H7 p A A1 := (O1.trans (Own.of (s2.trans (s5.trans (s6.trans s7)))))
      exact st_ret (val_var rfl) (k _ _ A' bs (O1.trans ((Own.of (s2.trans (s5.trans s6))).trans (O'.trans (O9.trans O10)))) D10 bok inc blen)
end
end PR
set_option Elab.async false
set_option maxRecDepth 100000
set_option linter.all false
set_option maxHeartbeats 1000000
/-! No such letter: spot raises, the law catches. -/
namespace PR
open PySem PySem.Spec PyProof.Rows L2
section
variable {X : Cx} {CX : CXT} {k : Nat} {f C : Addr} {fd : FuncData} {ps : List Str} {sp : Sp} {E : L2.St → XK} {m : Str} {apos pos : Pos} {e o : Expr} {es : List Expr} {ta : TE} {t : TA}
/-- a method called, its way out knowing the slots -/
def tMethE (C : Addr) (m : Str) (sp : Sp) (E : L2.St → XK) (ta : TE) (t : TA) : TE := fun σ H Q => ta σ H fun x H1 => ∃ a dx fs, x = .ref a ∧ H1 a = some (.ins C dx fs) ∧ fs.lookup m = none ∧ t σ H1 fun vs H2 => sp (x :: vs) H2 Q (E σ)
theorem pe_methE {pl : Sem Bool} (he : PE X o ta) (c : Cls X.K C) (hm : Meth X.K C m f) (F : FnOk X.prog X.w X.K X.mg X.base CX k f fd ps sp) (hr : Room k X.A) (hb : Binds X.K fd ps []) (hx : ∀ σ, PassesAt CX X σ (E σ)) (ha : PA X (e :: es) t)
    (hst : starEach (e :: es) X.env = (false, eval e X.env) :: starEach es X.env := by rfl) (hpl : (backTo pos (starEach es X.env)).any (·.1) = false := by rfl)
    (ht : eval (.Call (.Attribute o m apos) (e :: es) [] pos) X.env = (do
      let ov ← eval o X.env
      standAt apos.atName
      let (f, first) ← holding [ov] (getMethod ov m pl)
      callWith pos f first (backTo pos (starEach (e :: es) X.env)) (backToKw pos (keywordEach [] X.env))) := by rfl) :
    PE X (.Call (.Attribute o m apos) (e :: es) [] pos) (tMethE C m sp E ta t) := by
  refine ⟨fun pins s σ H Q I h => ?_⟩
  refine PySem.W.methodCall_KW (pl := pl) (thn (he.run pins s σ H _ I h) fun u s1 ⟨x, H1, I1, rx, a, dx, fs, ex, ea, l, q⟩ => ?_) ht
  subst ex
  obtain rfl : u = Value.ref a := rx
  refine getmeth_ok I1 ea c hm l ?_
  refine PySem.W.callWith_K (first := [.ref a]) (h₀ := X.base) I.ok.mod.kin hm.kp (thn (ha.run pos pins s1 σ H1 _ I1 q) fun us s2 ⟨vs, H2, I2, r, q2⟩ => ⟨I2.kIn, ?_⟩) hst hpl
  exact run_fnS (us := .ref a :: us) (vs := .ref a :: vs) F hr hb (hx σ) I2 (.cons rfl r) q2
end
section
variable {P : Program} {w : World} {K : PySem.W.Frag} {mg : Str → Option Value} {base : Heap} {c : Cs}
def spNoL (c : Cs) : Sp := fun vs H Q _ => ∃ (a : Addr) (v : V), vs = [.ref a, v] ∧ H a = some (exo a c.noLetter none) ∧ ∀ dx, H dx = none → dx ≠ a → Q .non (upd (upd H dx (exd dx [("number", v)])) a (exo a c.noLetter (some dx)))
theorem ok_NoL (T : Txt K mg c) : ∃ f fd, PySem.W.findIn K (.ref c.noLetter) "__init__" = some (some (.ref f)) ∧ PySem.W.typeIn K (.ref f) = some (.type "function") ∧ FnOk P w K mg base C8.CX0 1 f fd ["self", "number"] (spNoL c) ∧ Binds K fd ["self", "number"] [] := by
  obtain ⟨f, fd, h1, h2, F⟩ := T.d_NoLetter_init.ex
  refine ⟨f, fd, h1, h2, F.ok sc_NoLetter_init (fun vs H Q E h => ?_) (fun cdv A outer s H vs Q E hr h => ?_), F.binds (fun _ _ _ _ _ _ us hl => match us, hl with | [_, _], _ => rfl)⟩
  · obtain ⟨a, v, rfl, _⟩ := h
    rfl
  · obtain ⟨a, v, rfl, ha, k⟩ := h
    refine ⟨_, pss_cons (ps_expr (pe_rinit (by rfl) T.m_RoadError T.exB (pa_cons (pv 0) (pa_cons pe_str pa_nil)))) (pss_one (ps_ost (pv 0) (pv 1))), ?_⟩
    refine ⟨_, rfl, a, c.noLetter, _, rfl, (by show 1 ≤ 1000; decide), T.exO, ha, ?_⟩
    exact ⟨_, rfl, _, rfl, a, c.noLetter, rfl, T.exO, T.exN, .inl ⟨ha, k⟩⟩
def spSpotX (c : Cs) : Sp := fun vs H Q E => ∃ (p : Addr) (A : Da) (D : Dy) (i : Int), vs = [.ref p, .int i] ∧ DayAt c H p A D ∧ (decide (0 ≤ i) && decide (i < (D.lts.length : Int))) = false ∧ ∀ d, H d = none → E (.ref c.noLetter) (some d) (upd H d (.xd [("number", .int i)]))
theorem ok_SpotX (T : Txt K mg c) : ∃ f fd, Meth K c.day "spot" f ∧ FnOk P w K mg base (L2.CX P w) 3 f fd ["self", "number"] (spSpotX c) ∧ Binds K fd ["self", "number"] [] := by
  obtain ⟨f, fd, me, F⟩ := T.d_Day_spot.ex
  refine ⟨f, fd, me, F.okX sc_Day_spot (fun vs H Q E h => ?_) (fun cdv A outer s H vs Q E hr h => ?_), F.binds (fun _ _ _ _ _ _ us hl => match us, hl with | [_, _], _ => rfl)⟩
  · obtain ⟨p, A, D, i, rfl, _⟩ := h
    rfl
  · obtain ⟨p, A', D, i, rfl, d, out, k⟩ := h
    obtain ⟨f1, fd1, g1, g2, F1, b1⟩ := ok_NoL (P := P) (w := w) (base := base) T
    refine ⟨_, pss_cons (ps_if (pt_not (pt_chain op_le op_lt pe_int (pv 1) (pe_callB call_len_seq (by rfl) T.b_len PySem.boot_len (pa_cons (pe_fld (pv 0) rfl) pa_nil)))) (pss_one (ps_raise rfl (takes_of rfl rfl rfl rfl) (pmk_oex T.exO g1 g2 F1 hr b1 .nil C8.pass0 (by rfl) T.m_NoLetter (pa_cons (pv 1) pa_nil)))) pss_nil) pss_never, ?_⟩
    obtain ⟨ls, l1, l2⟩ := d.post
    have vpo : Val (tFld K (tVar 0) "posted") [some (.ref p), some (.int i)] H (.ref A'.pp) := val_fld (val_var rfl) d.po T.cl_Day T.n_Day_posted lk_Day_posted
    refine sq_seq (st_yes (Ans.to (ans_not (ans_test (v_lelt (i := 0) (j := i) val_c (val_var rfl) (v_lenL (SqL.of (d.same _ _ l1)) vpo)))) (by
      rw [List.length_map, l2.length]
      have out : (decide (0 ≤ i) && decide (i < (D.lts.length : Int))) = false := out
      rw [out]
      rfl)) ?_)
    refine ⟨_, rfl, (by show 1 ≤ 1000; decide), fun a ha => ?_⟩
    refine ⟨a, _, rfl, upd_same, fun dx hdx ne => ⟨rfl, dx, [("number", .int i)], upd_same, (by rw [upd_ne ne, upd_same]), ?_, ?_⟩⟩
    · rw [upd_ne ne] at hdx
      exact hdx
    · rw [upd_ne ne] at hdx
      have e : upd (del (upd (upd (upd H a (exo a c.noLetter none)) dx (exd dx [("number", .int i)])) a (exo a c.noLetter (some dx))) a) dx (.xd [("number", .int i)]) = upd H dx (.xd [("number", .int i)]) := by
        funext b
        by_cases z : b = dx
        · rw [z, upd_same, upd_same]
        · rw [upd_ne z, upd_ne z]
          by_cases y : b = a
          · rw [y, del_same, ha]
          · rw [del_ne y, upd_ne y, upd_ne z, upd_ne y]
      rw [e]
      exact k dx hdx
theorem lk_number {v : V} : List.lookup ("number" : Str) [(("number" : Str), v)] = some v := by kernel_rfl
def spNobody (c : Cs) : Sp := fun vs H Q _ => ∃ (p : Addr) (A : Da) (D : Dy) (i : Int), vs = [.ref p, .int i] ∧ DayAt c H p A D ∧ (decide (0 ≤ i) && decide (i < (D.lts.length : Int))) = false ∧ ∀ H', Same H H' → Q (.bl true) H'
theorem ok__law_nobody (T : Txt K mg c) : C8.Cal P w K mg base 5 "_law_nobody" (spNobody c) [] := by
  refine cal_of T.d__law_nobody sc__law_nobody (fun _ _ _ _ _ _ us hl => match us, hl with | [_, _], _ => rfl) (fun vs H Q E h => ?_) (fun f cdv A outer s H vs Q E hr h => ?_)
  · obtain ⟨p, A, D, i, rfl, _⟩ := h
    rfl
  · obtain ⟨p, A', D, i, rfl, d, out, k⟩ := h
    obtain ⟨f1, fd1, me, F1, b1⟩ := ok_SpotX (P := P) (w := w) (base := base) T
    refine ⟨_, pss_cons (ps_set (i := 2) sc__law_nobody.nd rfl (Or.inl rfl) pe_non)
      (pss_cons (ps_try_keep (i := 3) rfl rfl rfl sc__law_nobody.nd rfl rfl ⟨by rfl, by decide, .inl T.m_NoLetter⟩ (fun W pn xe tk _ => pss_one (ps_expr (pe_methE (pv 0) T.cl_Day me F1 (hr.mono (by decide)) b1 (fun σ => passAt tk σ) (pa_cons (pv 1) pa_nil))))
        (fun a pn => pss_one (ps_set (i := 2) sc__law_nobody.nd rfl (Or.inl rfl) (pv 3))))
      (pss_one (ps_ret (pe_and (pe_callB call_isK (by rfl) T.b_isinstance (by decide +kernel) (pa_cons (pv 2) (pa_cons (C8.pe_gc rfl T.c_RoadError) pa_nil))) (pe_and (pe_callB call_isK (by rfl) T.b_isinstance (by decide +kernel) (pa_cons (pv 2) (pa_cons (pe_bty (n := "ValueError") rfl T.b_ValueError (by decide +kernel)) pa_nil))) (pe_one (pe_cmpR op_eq (pe_kf (pv 2)) (pv 1) (nomark _)))))))), ?_⟩
    refine sq_seq (st_set val_c ?_)
    refine ⟨_, rfl, p, _, _, rfl, d.po, ln_Day_spot, _, rfl, p, A', D, i, rfl, d, out, fun dd hdd => ?_⟩
    refine ⟨T.exM, c.noLetter, dd, rfl, rfl, fun a ha => ⟨_, rfl, ?_⟩⟩
    have hdd1 : H dd = none := hdd
    have hda : dd ≠ a := fun z => by rw [z, upd_same] at ha; cases ha
    rw [upd_ne hda.symm] at ha
    have s1 : Same H (upd H dd (.xd [("number", .int i)])) := Same.new hdd1
    have s2 : Same (upd H dd (.xd [("number", .int i)])) (upd (upd H dd (.xd [("number", .int i)])) a (exk a c.noLetter dd)) := Same.new (by rw [upd_ne hda.symm]; exact ha)
    have ea : (upd (upd H dd (.xd [("number", .int i)])) a (exk a c.noLetter dd)) a = some (exk a c.noLetter dd) := upd_same
    have ed : (upd (upd H dd (.xd [("number", .int i)])) a (exk a c.noLetter dd)) dd = some (.xd [("number", .int i)]) := by rw [upd_ne hda, upd_same]
    generalize upd (upd H dd (.xd [("number", .int i)])) a (exk a c.noLetter dd) = H2 at s2 ea ed ⊢
    refine ⟨_, rfl, a, c.noLetter, dd, _, _, true, _, rfl, ea, ed, T.exK, .own _, T.exR, true, rfl, iteT ?_⟩
    refine ⟨_, rfl, a, c.noLetter, dd, _, _, true, _, rfl, ea, ed, T.exK, .ty _, T.exV, true, rfl, iteT ?_⟩
    refine ⟨_, rfl, a, c.noLetter, dd, _, .int i, rfl, ea, ed, T.exK, T.exN, lk_number, _, rfl, rfl, ?_⟩
    rw [decide_eq_true rfl]
    exact k H2 (s1.trans s2)
end
end PR
set_option Elab.async false
set_option maxRecDepth 100000
set_option linter.all false
set_option maxHeartbeats 1000000
/-! Plans walked: numbers, bags, the walk's making, its methods but amiss. -/
namespace PR
open PySem PySem.Spec PyProof.Rows L2
def LastAt (H : Hp) (lv : V) : Option (Int × Nat) → Prop
  | none => lv = .non
  | some x => ∃ q, lv = .ref q ∧ H q = some (.tup [.int x.1, nat x.2])
theorem LastAt.mono {H H' : Hp} {lv : V} (s : Same H H') : ∀ {o : Option (Int × Nat)}, LastAt H lv o → LastAt H' lv o
  | none, h => h
  | some _, ⟨q, e, h⟩ => ⟨q, e, s _ _ h⟩
/-- a walk: G what it leans on -/
structure WalkAt (c : Cs) (G H : Hp) (p ps pn : Addr) (N : Nt) (lts : List Lt) (sps : List Spt) (lst : Option (Int × Nat)) : Prop where
  same : Same G H
  gp : G p = none
  gs : G ps = none
  net : NetAt c G pn N
  at_ : ∃ (wx pp : Addr) (lv : V) (ls : List Addr), H p = some (.ins c.walk wx (walkF (.ref pn) (.ref pp) (.ref ps) lv)) ∧ LastAt H lv lst ∧ H pp = some (.lst (ls.map V.ref)) ∧ Paired (LtAt G) ls lts ∧ pp ≠ ps
  stood : ∃ as : List Addr, H ps = some (.lst (as.map V.ref)) ∧ Paired (SptAt c H) as sps
theorem WalkAt.mono {c : Cs} {G H H' : Hp} {p ps pn : Addr} {N : Nt} {lts : List Lt} {sps : List Spt} {lst : Option (Int × Nat)} (w : WalkAt c G H p ps pn N lts sps lst) (s : Same H H') : WalkAt c G H' p ps pn N lts sps lst := by
  obtain ⟨wx, pp, lv, ls, h1, h2, h3, h4, h5⟩ := w.at_
  obtain ⟨as, t1, t2⟩ := w.stood
  exact ⟨w.same.trans s, w.gp, w.gs, w.net, ⟨wx, pp, lv, ls, s _ _ h1, h2.mono s, s _ _ h3, h4, h5⟩, ⟨as, s _ _ t1, L2.Paired.mapP t2 fun _ _ => SptAt.mono s⟩⟩
theorem lay_tints (ns : List Int) : (PyData.tuple (ns.map PyData.int)).canLay0 = true ∧ (PyData.tuple (ns.map PyData.int)).depth ≤ 1 := lay_tuple fun d hd => by
  obtain ⟨n, _, rfl⟩ := List.mem_map.mp hd
  exact ⟨by simp [PyData.canLay0], by simp [PyData.depth]⟩
theorem nat_int (ns : List Nat) : ns.map nat = (ns.map fun n : Nat => (n : Int)).map V.int := by rw [List.map_map] <;> rfl
section
variable {P : Program} {w : World} {K : PySem.W.Frag} {mg : Str → Option Value} {base : Heap} {c : Cs}
def spNumber : Sp := fun vs H Q _ => ∃ i : Int, vs = [.int i] ∧ Q (.bl true) H
theorem ok_is_number (T : Txt K mg c) : C8.Cal P w K mg base 1 "is_number" (spNumber) [] := by
  refine cal_of T.d_is_number sc_is_number (fun _ _ _ _ _ _ us hl => match us, hl with | [_], _ => rfl) (fun vs H Q E h => ?_) (fun f cdv A outer s H vs Q E hr h => ?_)
  · obtain ⟨i, rfl, _⟩ := h
    rfl
  · obtain ⟨i, rfl, k⟩ := h
    have hu := hu_of hr
    refine ⟨_, (pss_one (ps_ret (pe_and (pe_callB call_isi (by rfl) T.b_isinstance (by decide +kernel) (pa_cons (pv 0) (pa_cons (pe_bty (n := "int") rfl T.b_int (by decide +kernel)) pa_nil))) (pe_one (pe_not (pe_callB call_isi (by rfl) T.b_isinstance (by decide +kernel) (pa_cons (pv 0) (pa_cons (pe_bty (n := "bool") rfl T.b_bool (by decide +kernel)) pa_nil)))))))), ?_⟩
    exact st_ret (val_and (val_isiT (a := true) (val_var rfl) (.base (.int _)) (by decide +kernel)) fun _ => val_not (val_isiT (a := false) (val_var rfl) (.base (.int _)) (by decide +kernel))) k
def spIsBag : Sp := fun vs H Q _ => ∃ (a : Addr) (b : Bg), vs = [.ref a] ∧ BgAt H a b ∧ b.ns ≠ [] ∧ b.ns.length ≤ 1000 ∧ ∀ H', Same H H' → Q (.bl true) H'
theorem ok_is_bag (T : Txt K mg c) : C8.Cal P w K mg base 2 "is_bag" (spIsBag) [] := by
  refine cal_of T.d_is_bag sc_is_bag (fun _ _ _ _ _ _ us hl => match us, hl with | [_], _ => rfl) (fun vs H Q E h => ?_) (fun f cdv A outer s H vs Q E hr h => ?_)
  · obtain ⟨a, b, rfl, _⟩ := h
    rfl
  · obtain ⟨a, b, rfl, ⟨q, h1, h2⟩, hne, fewn, k⟩ := h
    have hu := hu_of hr
    have T_is_number := ok_is_number (P := P) (w := w) (base := base) T
    refine ⟨_, (pss_cons (ps_if (PW.pt (pw_or (pt_not (pt_val (pe_callB call_isi (by rfl) T.b_isinstance (by decide +kernel) (pa_cons (pv 0) (pa_cons (pe_bty (n := "tuple") rfl T.b_tuple (by decide +kernel)) pa_nil))))) (pw_or1 (pt_cmpR op_ne (pe_callB call_len_seq (by rfl) T.b_len PySem.boot_len (pa_cons (pv 0) pa_nil)) pe_int (nomark _))))) (pss_one (ps_ret pe_bl)) pss_nil)
  (pss_cons (ps_if (PW.pt (pw_or (pt_not (pt_val (C8.pe_c T_is_number hr (by decide) rfl (pa_cons (pe_ix ix_tup (pv 0) pe_int (fun _ _ => rfl)) pa_nil)))) (pw_or (pt_not (pt_val (C8.pe_c T_is_number hr (by decide) rfl (pa_cons (pe_ix ix_tup (pv 0) pe_int (fun _ _ => rfl)) pa_nil)))) (pw_or1 (pt_not (pt_val (pe_callB call_isi (by rfl) T.b_isinstance (by decide +kernel) (pa_cons (pe_ix ix_tup (pv 0) pe_int (fun _ _ => rfl)) (pa_cons (pe_bty (n := "tuple") rfl T.b_tuple (by decide +kernel)) pa_nil))))))))) (pss_one (ps_ret pe_bl)) pss_nil)
  (pss_one (ps_ret (pe_and (pe_cmpR (op_neD hr.units) (pe_ix ix_tup (pv 0) pe_int (fun _ _ => rfl)) (pe_tup pa_nil) (nomark _)) (pe_one (pe_callB (cr_all rfl) (by rfl) T.b_all (by decide +kernel) (pa_cons (pe_lc (own := [("one", 1)]) rfl sc_is_bag.nd (pi_tup (pe_ix ix_tup (pv 0) pe_int (fun _ _ => rfl))) (blkOk_by (own := [("one", 1)]) (N := N_is_bag) (sc := defScope s_is_bag) (by decide +kernel)) (fun _ _ _ _ _ => by exact (pg_name (i := 1) sc_is_bag.nd rfl (Or.inl rfl))) (fun _ _ _ _ _ => by exact pts_nil) (fun _ _ _ _ _ => by exact (C8.pe_c T_is_number hr (by decide) rfl (pa_cons (pv 1) pa_nil)))) pa_nil)))))))), ?_⟩
    have hT : SqT K H a [.int b.tn, nat b.rd, .ref q] := SqT.of h1
    have hq : SqT K H q (b.ns.map nat) := SqT.of h2
    have i0 : ∀ σ : L2.St, σ[0]? = some (some (.ref a)) → Val (tOp (rIxT K) (tVar 0) (tC (.int 0))) σ H (.int b.tn) := fun σ e => v_ixTn (j := 0) hT (val_var e) rfl
    have i1 : ∀ σ : L2.St, σ[0]? = some (some (.ref a)) → Val (tOp (rIxT K) (tVar 0) (tC (.int 1))) σ H (nat b.rd) := fun σ e => v_ixTn (j := 1) hT (val_var e) rfl
    have i2 : ∀ σ : L2.St, σ[0]? = some (some (.ref a)) → Val (tOp (rIxT K) (tVar 0) (tC (.int 2))) σ H (.ref q) := fun σ e => v_ixTn (j := 2) hT (val_var e) rfl
    refine sq_no (Ans.to (ans_or' (ans_not (ans_val (val_isiT (a := true) (val_var rfl) (.base (.tup h1)) (by decide +kernel)))) fun _ => ans_test (v_ne (v_lenT hT (val_var rfl)) val_c rfl)) rfl) ?_
    refine sq_no (Ans.to (ans_or' (ans_not (ans_val (v_call1 (i0 _ rfl) fun Q' q' => ⟨b.tn, rfl, q'⟩))) fun _ => ans_or' (ans_not (ans_val (v_call1 (i1 _ rfl) fun Q' q' => ⟨(b.rd : Int), rfl, q'⟩))) fun _ => ans_not (ans_val (val_isiT (a := true) (i2 _ rfl) (.base (.tup h2)) (by decide +kernel)))) rfl) ?_
    refine i2 _ rfl _ ?_
    refine ⟨by show 0 ≤ sizeLine; decide, fun l0 hl0 => ?_⟩
    have s1 : Same H (upd H l0 (.tup [])) := Same.new hl0
    have e1 : (upd H l0 (.tup [])) l0 = some (.tup []) := upd_same
    generalize upd H l0 (.tup []) = H1 at s1 e1 ⊢
    have dq : Dp K H1 (.ref q) (.tuple ((b.ns.map fun n : Nat => (n : Int)).map PyData.int)) := .tup (SqT.of (s1 _ _ h2)) (by rw [nat_int]; exact dp_ints _)
    refine ⟨_, .tuple [], dq, .tup (SqT.of e1) .nil, shaped_of (lay_tints _) (by decide), shaped_of (lay_tints []) (by decide), ?_⟩
    have e : PyData.eqv (.tuple ((b.ns.map fun n : Nat => (n : Int)).map PyData.int)) (.tuple []) = false := by
      cases hb : b.ns with
      | nil => exact absurd hb hne
      | cons x r => rfl
    rw [e]
    refine ⟨true, rfl, iteT ?_⟩
    have hT1 : SqT K H1 a [.int b.tn, nat b.rd, .ref q] := SqT.of (s1 _ _ h1)
    refine ⟨_, rfl, a, _, 2, .ref q, rfl, rfl, hT1, rfl, q, rfl, ⟨_, SqT.of (s1 _ _ h2)⟩, fun D hD => lc_tup (xs := b.ns.map nat) (fun i H' => Same H1 H' ∧ H' D = some (.lst ((List.replicate i true).map V.bl))) ⟨Same.new hD, upd_same⟩ (fun _ _ _ h => SqT.of (h.1 _ _ (s1 _ _ h2))) ?_ ?_⟩
    · rintro i x H2 hi ⟨s, d⟩
      obtain ⟨n, hn, rfl⟩ := map_of hi
      have li := lt_of_at hn
      refine ⟨rfl, ?_⟩
      refine ⟨_, rfl, (n : Int), rfl, _, d, sz_lt (by rw [List.length_map, List.length_replicate]; omega), s.mut hD, ?_⟩
      rw [upd_same, List.replicate_succ', List.map_append]
      rfl
    · rintro H2 ⟨s, d⟩
      refine ⟨D, _, rfl, SqL.of d, ?_⟩
      rw [all_true]
      exact k H2 (s1.trans s)
def spWalkInit (c : Cs) : Sp := fun vs H Q _ => ∃ (p wx pn ql : Addr) (G : Hp) (N : Nt) (lts : List Lt), vs = [.ref p, .ref pn, .ref ql] ∧ H p = some (.ins c.walk wx []) ∧ Same G H ∧ G p = none ∧ NetAt c G pn N ∧ LOf (LtAt G) G ql lts ∧ lts.length ≤ 40 ∧
  ∀ H' ps, (∀ b o, H b = some o → b ≠ p → H' b = some o) → H ps = none → WalkAt c G H' p ps pn N lts (List.replicate lts.length .ny) none → Q .non H'
theorem ok_Walk_init (T : Txt K mg c) : C8.Mak P w K mg base 1 "Walk" c.walk (spWalkInit c) [] := by
  refine mak_of T.m_Walk T.d_Walk_init sc_Walk_init (fun _ _ _ _ _ _ us hl => match us, hl with | [_, _, _], _ => rfl) (fun vs H Q E h => ?_) (fun f cdv A outer s H vs Q E hr h => ?_)
  · obtain ⟨p, wx, pn, ql, G, N, lts, rfl, _⟩ := h
    rfl
  · obtain ⟨p, wx, pn, ql, G, N, lts, rfl, hp, sG, gp, hN, ⟨ls, l1, l2⟩, few, k⟩ := h
    have hu := hu_of hr
    refine ⟨_, (pss_cons (ps_fld (pv 0) (pv 1) rfl)
  (pss_cons (ps_fld (pv 0) (pe_callTy call_list_of (by rfl) T.b_list (by decide +kernel) (pa_cons (pv 2) pa_nil)) rfl)
  (pss_cons (ps_fld (pv 0) (pe_lc (own := [("one", 3)]) rfl sc_Walk_init.nd (pi_list (pv 2)) (blkOk_by (own := [("one", 3)]) (N := N_Walk_init) (sc := defScope s_Walk_init) (by decide +kernel)) (fun _ _ _ _ _ => by exact (pg_name (i := 3) sc_Walk_init.nd rfl (Or.inl rfl))) (fun _ _ _ _ _ => by exact pts_nil) (fun _ _ _ _ _ => by exact (pe_new0 T.new_NotYet rfl T.m_NotYet))) rfl)
  (pss_one (ps_fld (pv 0) pe_non rfl))))), ?_⟩
    have lsl := l2.length
    refine ⟨_, rfl, _, rfl, p, c.walk, wx, [], rfl, hp, T.cl_Walk, T.n_Walk_net, (by decide), ?_⟩
    generalize hfs : putF "net" (V.ref pn) [] = fs
    have k1 : ∀ b o, H b = some o → b ≠ p → (upd H p (.ins c.walk wx fs)) b = some o := fun b o e n => by rw [upd_ne n]; exact e
    have p1 : (upd H p (.ins c.walk wx fs)) p = some (.ins c.walk wx fs) := upd_same
    have f1 : ∀ b, (upd H p (.ins c.walk wx fs)) b = none → H b = none ∧ b ≠ p := fun b e => by
      have n : b ≠ p := fun z => by rw [z, upd_same] at e; cases e
      rw [upd_ne n] at e
      exact ⟨e, n⟩
    generalize upd H p (.ins c.walk wx fs) = H1 at k1 p1 f1 ⊢
    have qlp : ql ≠ p := fun z => by rw [z, gp] at l1; cases l1
    -- self.posted = list(letters)
    refine ⟨_, rfl, ql, _, rfl, .inl (SqL.of (k1 _ _ (sG _ _ l1) qlp)), fun pp hpp => ?_⟩
    obtain ⟨pp0, ppp⟩ := f1 pp hpp
    refine ⟨_, rfl, p, c.walk, wx, _, rfl, (by rw [upd_ne ppp.symm]; exact p1), T.cl_Walk, T.n_Walk_posted, (by rw [← hfs]; show 1 < 1000; decide), ?_⟩
    generalize hfs2 : putF "posted" (V.ref pp) fs = fs2
    generalize hH2 : upd (upd H1 pp (.lst (ls.map V.ref))) p (.ins c.walk wx fs2) = H2
    have k2 : ∀ b o, H1 b = some o → b ≠ p → H2 b = some o := fun b o e n => by rw [← hH2, upd_ne n, upd_ne (ne_of_none e hpp)]; exact e
    have p2 : H2 p = some (.ins c.walk wx fs2) := by rw [← hH2, upd_same]
    have pp2 : H2 pp = some (.lst (ls.map V.ref)) := by rw [← hH2, upd_ne ppp, upd_same]
    have f2 : ∀ b, H2 b = none → H1 b = none ∧ b ≠ p ∧ b ≠ pp := fun b e => by
      have n1 : b ≠ p := fun z => by rw [z, p2] at e; cases e
      have n2 : b ≠ pp := fun z => by rw [z, pp2] at e; cases e
      rw [← hH2, upd_ne n1, upd_ne n2] at e
      exact ⟨e, n1, n2⟩
    clear hH2
    -- self.stood = [NotYet() for one in letters]
    have ql2 := k2 _ _ (k1 _ _ (sG _ _ l1) qlp) qlp
    refine ⟨_, rfl, ql, rfl, ⟨_, SqL.of ql2⟩, fun ps hps => ?_⟩
    obtain ⟨ps1, psp, pspp⟩ := f2 ps hps
    refine lc_list (xs := ls.map V.ref) (fun i H' => ∃ as : List Addr, Same H2 H' ∧ H' ps = some (.lst (as.map V.ref)) ∧ Paired (SptAt c H') as (List.replicate i .ny)) ⟨[], Same.new hps, upd_same, .nil⟩ (fun _ _ _ ⟨_, s, _, _⟩ => SqL.of (s _ _ ql2)) ?_ ?_
    · rintro i x H3 hi ⟨as, s, d, pa⟩
      obtain ⟨a, ha, rfl⟩ := map_of hi
      have li := lt_of_at ha
      refine ⟨rfl, ?_⟩
      intro x dx hx hdx ne
      have s3 : Same H3 (upd (upd H3 dx (.own x)) x (.ins c.notYet dx [])) := fun b o e => by rw [upd_ne (ne_of_none e hx), upd_ne (ne_of_none e hdx)]; exact e
      have x3 : (upd (upd H3 dx (.own x)) x (.ins c.notYet dx [])) x = some (.ins c.notYet dx []) := upd_same
      generalize upd (upd H3 dx (.own x)) x (.ins c.notYet dx []) = H4 at s3 x3 ⊢
      have al := pa.length
      rw [List.length_replicate] at al
      have d4 := s3 _ _ d
      refine ⟨_, d4, sz_lt (by rw [List.length_map]; omega), as ++ [x], (s.trans s3).mut hps, ?_, ?_⟩
      · rw [upd_same, List.map_append]
        rfl
      · rw [List.replicate_succ']
        exact Paired.app (L2.Paired.mapP pa fun b t h => Spt_mut d4 (h.mono s3)) (.cons (Spt_mut d4 ⟨dx, x3⟩) .nil)
    · rintro H3 ⟨as, s, d, pa⟩
      rw [List.length_map, lsl] at pa
      refine ⟨_, rfl, p, c.walk, wx, _, rfl, s _ _ p2, T.cl_Walk, T.n_Walk_stood, (by rw [← hfs2, ← hfs]; show 2 < 1000; decide), ?_⟩
      refine ⟨_, rfl, p, c.walk, wx, _, rfl, upd_same, T.cl_Walk, T.n_Walk_last, (by rw [← hfs2, ← hfs]; show 3 < 1000; decide), ?_⟩
      rw [upd_upd]
      have efs : putF "last" V.non (putF "stood" (V.ref ps) fs2) = walkF (.ref pn) (.ref pp) (.ref ps) .non := by
        rw [← hfs2, ← hfs]
        kernel_rfl
      rw [efs]
      generalize hH4 : upd H3 p (.ins c.walk wx (walkF (.ref pn) (.ref pp) (.ref ps) .non)) = H4
      have k4 : ∀ b o, H3 b = some o → b ≠ p → H4 b = some o := fun b o e n => by rw [← hH4, upd_ne n]; exact e
      have p4 : H4 p = some (.ins c.walk wx (walkF (.ref pn) (.ref pp) (.ref ps) .non)) := by rw [← hH4, upd_same]
      have kk : ∀ b o, H b = some o → b ≠ p → H4 b = some o := fun b o e n => k4 _ _ (s _ _ (k2 _ _ (k1 b o e n) n)) n
      have ps0 : H ps = none := (f1 ps ps1).1
      refine k H4 ps kk ps0 ⟨fun b o e => kk b o (sG b o e) (fun z => by rw [z, gp] at e; cases e), gp, sG.free ps0, hN, ⟨wx, pp, .non, ls, p4, rfl, k4 _ _ (s _ _ pp2) ppp, l2, pspp.symm⟩, ⟨as, k4 _ _ d psp, L2.Paired.mapP pa fun a t ⟨dx, e⟩ => ⟨dx, k4 _ _ e fun z => ?_⟩⟩⟩
      rw [z, s _ _ p2] at e
      have e := Option.some.inj e
      injection e with _ _ e
      have h2 : t.fs.length = fs2.length := by rw [e]
      have l2 : fs2 = [(("net" : Str), V.ref pn), (("posted" : Str), V.ref pp)] := by rw [← hfs2, ← hfs]; kernel_rfl
      rw [l2] at e
      have := congrArg (fun l => l.map (·.1)) e
      revert this
      cases t with
      | ny => intro z; cases z
      | hm s => intro z; cases z
      | ah h s =>
        show ¬ _
        show ¬ ([("net" : Str), ("posted" : Str)] = [("at" : Str), ("since" : Str)])
        decide
      | rd h s =>
        show ¬ _
        show ¬ ([("net" : Str), ("posted" : Str)] = [("by" : Str), ("due" : Str)])
        decide
def spLiesAt (c : Cs) : Sp := fun vs H Q _ => ∃ (p ps pn : Addr) (G : Hp) (N : Nt) (lts : List Lt) (sps : List Spt) (lst : Option (Int × Nat)) (n : Nat) (z : Str) (t : Int) (lt : Lt) (sp : Spt) (s : Int), vs = [.ref p, nat n, .str z, .int t] ∧ WalkAt c G H p ps pn N lts sps lst ∧
  lts[n]? = some lt ∧ sps[n]? = some sp ∧ (∀ r due, sp = .rd r due → ∃ l, N.lines[r]? = some l) ∧ laterM N lt sp t = .ah z s ∧ ∀ H', Same H H' → Q (.bl true) H'
theorem ok_Walk_lies_at (T : Txt K mg c) : C8.Met P w K mg base 4 c.walk "lies_at" (spLiesAt c) [] := by
  refine met_of T.cl_Walk T.d_Walk_lies_at sc_Walk_lies_at (fun _ _ _ _ _ _ us hl => match us, hl with | [_, _, _, _], _ => rfl) (fun vs H Q E h => ?_) (fun f cdv A outer s H vs Q E hr h => ?_)
  · obtain ⟨p, ps, pn, G, N, lts, sps, lst, n, z, t, lt, sp, s, rfl, _⟩ := h
    rfl
  · obtain ⟨p, ps, pn, G, N, lts, sps, lst, n, z, t, lt, sp, s, rfl, W, hl, hs, spo, hlat, k⟩ := h
    have hu := hu_of hr
    have T_later := ok_later (P := P) (w := w) (base := base) T
    refine ⟨_, (pss_cons (ps_set (i := 4) sc_Walk_lies_at.nd rfl (Or.inl rfl) (C8.pe_c T_later hr (by decide) rfl (pa_cons (pe_fld (pv 0) rfl) (pa_cons (pe_ix ix_list (pe_fld (pv 0) rfl) (pv 1) (fun _ _ => rfl)) (pa_cons (pe_ix ix_list (pe_fld (pv 0) rfl) (pv 1) (fun _ _ => rfl)) (pa_cons (pv 3) pa_nil))))))
  (pss_one (ps_ret (pe_and (pe_callB call_isi (by rfl) T.b_isinstance (by decide +kernel) (pa_cons (pv 4) (pa_cons (C8.pe_gc rfl T.c_AtHouse) pa_nil))) (pe_one (pe_cmpR op_eq (pe_fld (pv 4) rfl) (pv 2) (nomark _))))))), ?_⟩
    obtain ⟨wx, pp, lv, ls, h1, h2, h3, h4, h5⟩ := W.at_
    obtain ⟨as, t1, t2⟩ := W.stood
    obtain ⟨la, hla, pla⟩ := Paired.at_r h4 hl
    obtain ⟨sa, hsa, psa⟩ := Paired.at_r t2 hs
    have vpo : Val (tFld K (tVar 0) "posted") [some (.ref p), some (nat n), some (.str z), some (.int t), none] H (.ref pp) := val_fld (val_var rfl) h1 T.cl_Walk T.n_Walk_posted lk_Walk_posted
    have vst : Val (tFld K (tVar 0) "stood") [some (.ref p), some (nat n), some (.str z), some (.int t), none] H (.ref ps) := val_fld (val_var rfl) h1 T.cl_Walk T.n_Walk_stood lk_Walk_stood
    refine ⟨_, rfl, p, c.walk, _, _, _, rfl, h1, T.cl_Walk, T.n_Walk_net, lk_Walk_net, ?_⟩
    refine (v_ixL (i := (n : Int)) (SqL.of h3) vpo (val_var rfl) (atI_nat (refs_at hla))) _ ?_
    refine (v_ixL (i := (n : Int)) (SqL.of t1) vst (val_var rfl) (atI_nat (refs_at hsa))) _ ?_
    refine ⟨_, rfl, pn, N, la, lt, sa, sp, t, rfl, W.net.mono W.same, pla.mono W.same, psa, spo, fun a' H1 s1 sp1 _ => ?_⟩
    rw [hlat] at sp1
    obtain ⟨dx, e1⟩ := id sp1
    refine st_ret (v := .bl true) (Val.to (val_and (val_isiK T .ah sp1 (val_var rfl)) fun _ => v_eq (val_fld (val_var rfl) e1 T.cl_AtHouse T.n_AtHouse_at lk_AtHouse_at) (val_var rfl) rfl) ?_) (k H1 s1)
    rw [decide_eq_true (show V.str z = V.str z from rfl)]
    rfl
def spAreLetters (c : Cs) : Sp := fun vs H Q _ => ∃ (p ps pn q : Addr) (G : Hp) (N : Nt) (lts : List Lt) (sps : List Spt) (lst : Option (Int × Nat)) (ns : List Nat), vs = [.ref p, .ref q] ∧ WalkAt c G H p ps pn N lts sps lst ∧ SqT K H q (ns.map nat) ∧ ns.Pairwise (· < ·) ∧ (∀ n ∈ ns, n < lts.length) ∧ Q (.bl true) H
theorem ok_Walk_are_letters (T : Txt K mg c) : C8.Met P w K mg base 1 c.walk "are_letters" (spAreLetters (K := K) c) [] := by
  refine met_of T.cl_Walk T.d_Walk_are_letters sc_Walk_are_letters (fun _ _ _ _ _ _ us hl => match us, hl with | [_, _], _ => rfl) (fun vs H Q E h => ?_) (fun f cdv A outer s H vs Q E hr h => ?_)
  · obtain ⟨p, ps, pn, q, G, N, lts, sps, lst, ns, rfl, _⟩ := h
    rfl
  · obtain ⟨p, ps, pn, q, G, N, lts, sps, lst, ns, rfl, W, hq, inc, lt, k⟩ := h
    have hu := hu_of hr
    refine ⟨_, (pss_cons (ps_set (i := 2) sc_Walk_are_letters.nd rfl (Or.inl rfl) (pe_un un_neg pe_int))
  (pss_cons (ps_for PassesOwn.never rfl (pi_tup (pv 1)) (pg_name (i := 3) sc_Walk_are_letters.nd rfl (Or.inl rfl)) (pss_cons (ps_if (PW.pt (pw_or (pt_cmpR op_le (pv 3) (pv 2) (nomark _)) (pw_or1 (pt_cmpR op_ge (pv 3) (pe_callB call_len_seq (by rfl) T.b_len PySem.boot_len (pa_cons (pe_fld (pv 0) rfl) pa_nil)) (nomark _))))) (pss_one (ps_ret pe_bl)) pss_nil)
  (pss_one (ps_set (i := 2) sc_Walk_are_letters.nd rfl (Or.inl rfl) (pv 3)))))
  (pss_one (ps_ret pe_bl)))), ?_⟩
    obtain ⟨wx, pp, lv, ls, h1, h2, h3, h4, h5⟩ := W.at_
    have lsl := h4.length
    refine ⟨1, rfl, ?_⟩
    refine ⟨_, rfl, q, rfl, ⟨_, hq⟩, ?_⟩
    refine for_tup (K := K) (xs := ns.map nat) (fun i σ H' => ∃ (a : Int) (o3 : Option V), σ = [some (.ref p), some (.ref q), some (.int a), o3] ∧ H' = H ∧ ∀ (j : Nat) (x : Nat), i ≤ j → ns[j]? = some x → a < (x : Int))
      ⟨-1, _, rfl, rfl, fun j x _ _ => by omega⟩ (fun i σ H' _ ⟨_, _, _, e, _⟩ => by rw [e]; exact hq) ?_ ?_
    · rintro i x σ H1 hi ⟨a, o3, rfl, rfl, ah⟩
      obtain ⟨n, hn, rfl⟩ := map_of hi
      have l1 := lt n (List.mem_of_getElem? hn)
      have l2 := ah i n (Nat.le_refl _) hn
      have vpo : Val (tFld K (tVar 0) "posted") [some (.ref p), some (.ref q), some (.int a), some (nat n)] H1 (.ref pp) := val_fld (val_var rfl) h1 T.cl_Walk T.n_Walk_posted lk_Walk_posted
      have vge : ∀ {σ : L2.St} {ta tb : TE} {i j : Int}, Val ta σ H1 (.int i) → Val tb σ H1 (.int j) → Val (tOp (rI0 fun i j => .bl (decide (j ≤ i))) ta tb) σ H1 (.bl (decide (j ≤ i))) := fun ha hb => val_op ha hb fun _ q => ⟨_, _, rfl, rfl, q⟩
      refine sq_no (Ans.to (ans_or' (ans_test (v_le (i := (n : Int)) (j := a) (val_var rfl) (val_var rfl))) fun _ => ans_test (vge (i := (n : Int)) (val_var rfl) (v_lenL (SqL.of h3) vpo))) (by
        rw [List.length_map, lsl, decide_eq_false (show ¬ (n : Int) ≤ a by omega), decide_eq_false (show ¬ (lts.length : Int) ≤ (n : Int) by omega)]
        rfl)) ?_
      refine ⟨_, rfl, (n : Int), _, rfl, rfl, fun j x hj hx => ?_⟩
      have := List.pairwise_iff_getElem.mp inc i j (lt_of_at hn) (lt_of_at hx) (by omega)
      rw [(List.getElem?_eq_some_iff.mp hn).2, (List.getElem?_eq_some_iff.mp hx).2] at this
      omega
    · rintro σ H1 ⟨a, o3, rfl, rfl, _⟩
      exact k
def spSend (c : Cs) : Sp := fun vs H Q _ => ∃ (p ps pn a : Addr) (G : Hp) (N : Nt) (lts : List Lt) (sps : List Spt) (lst : Option (Int × Nat)) (b : Bg) (l : Ln), vs = [.ref p, .ref a] ∧ WalkAt c G H p ps pn N lts sps lst ∧ BgAt G a b ∧ N.lines[b.rd]? = some l ∧ (∀ n ∈ b.ns, n < sps.length) ∧
  ∀ H', (∀ x o, H x = some o → x ≠ p → x ≠ ps → H' x = some o) → WalkAt c G H' p ps pn N lts (left1 b.rd (b.tn + tnOf N b.rd) sps b.ns) (some (b.tn, b.rd)) → Q .non H'
theorem ok_Walk_send (T : Txt K mg c) : C8.Met P w K mg base 3 c.walk "send" (spSend c) [] := by
  refine met_of T.cl_Walk T.d_Walk_send sc_Walk_send (fun _ _ _ _ _ _ us hl => match us, hl with | [_, _], _ => rfl) (fun vs H Q E h => ?_) (fun f cdv A outer s H vs Q E hr h => ?_)
  · obtain ⟨p, ps, pn, a, G, N, lts, sps, lst, b, l, rfl, _⟩ := h
    rfl
  · obtain ⟨p, ps, pn, a, G, N, lts, sps, lst, b, l, rfl, W, hb, hl, hns, k⟩ := h
    have hu := hu_of hr
    have T_Net_road := ok_Net_road (P := P) (w := w) (base := base) T
    have T_OnRoad := ok_OnRoad_init (P := P) (w := w) (base := base) T
    refine ⟨_, (pss_cons (ps_asg (pv 1) (pg_tup rfl (pgs_cons (pg_name (i := 2) sc_Walk_send.nd rfl (Or.inl rfl)) (pgs_cons (pg_name (i := 3) sc_Walk_send.nd rfl (Or.inl rfl)) (pgs_cons (pg_name (i := 4) sc_Walk_send.nd rfl (Or.inl rfl)) pgs_nil)))))
  (pss_cons (ps_for PassesOwn.never rfl (pi_tup (pv 4)) (pg_name (i := 5) sc_Walk_send.nd rfl (Or.inl rfl)) (pss_one (ps_asg (C8.pe_mk T_OnRoad hr (by decide) rfl (pa_cons (pv 3) (pa_cons (pe_op op_add (pv 2) (pe_ix ix_tup (C8.pe_mt T_Net_road hr (by decide) (pe_fld (pv 0) rfl) (pa_cons (pv 3) pa_nil)) pe_int (fun _ _ => rfl))) pa_nil))) (pg_sub (pe_fld (pv 0) rfl) (pv 5) set_list))))
  (pss_one (ps_fld (pv 0) (pe_tup (pa_cons (pv 2) (pa_cons (pv 3) pa_nil))) rfl)))), ?_⟩
    obtain ⟨q, g1, g2⟩ := hb
    have h1' := W.same _ _ g1
    refine ⟨_, rfl, a, _, rfl, SqT.of h1', rfl, _, _, rfl, _, _, rfl, _, _, rfl, rfl, ?_⟩
    refine ⟨_, rfl, q, rfl, ⟨_, SqT.of (W.same _ _ g2)⟩, ?_⟩
    refine for_tup (K := K) (xs := b.ns.map nat) (fun j σ H' => ∃ (o5 : Option V), σ = [some (.ref p), some (.ref a), some (.int b.tn), some (nat b.rd), some (.ref q), o5] ∧ (∀ x o, H x = some o → x ≠ p → x ≠ ps → H' x = some o) ∧ WalkAt c G H' p ps pn N lts (left1 b.rd (b.tn + tnOf N b.rd) sps (b.ns.take j)) lst)
      ⟨_, rfl, (fun x o e _ _ => e), W⟩ (fun i σ H' _ ⟨_, _, _, w⟩ => SqT.of (w.same _ _ g2)) ?_ ?_
    · rintro j y σ H3 hj ⟨o5, rfl, kk, w⟩
      obtain ⟨n, hn, rfl⟩ := map_of hj
      obtain ⟨wx, pp, lv, ls, h1, h2, h3, h4, h5⟩ := w.at_
      obtain ⟨as, t1, t2⟩ := w.stood
      have hN3 := w.net.mono w.same
      obtain ⟨dn, an, al, n1, n2, n3⟩ := id hN3
      have ln : n < as.length := by
        rw [t2.length, left1_len]
        exact hns n (List.mem_of_getElem? hn)
      refine ⟨_, rfl, _, rfl, _, rfl, p, c.walk, _, _, _, rfl, h1, T.cl_Walk, T.n_Walk_net, lk_Walk_net, pn, dn, _, rfl, n1, ln_Net_road, _, rfl, pn, N, b.rd, l, rfl, hN3, hl, fun la hla => ⟨la, _, 2, .int l.tn, rfl, rfl, SqT.of hla, rfl, _, _, rfl, rfl, ?_⟩⟩
      intro x dx hx hdx ne
      refine ⟨x, dx, _, _, rfl, upd_same, rfl, ?_⟩
      have s4 := made_same (C := c.onRoad) (o := .ins c.onRoad dx (onRoadF (nat b.rd) (.int (b.tn + l.tn)))) (u := .ins c.onRoad dx []) hx hdx
      have x4 : (upd (upd (upd H3 dx (.own x)) x (.ins c.onRoad dx [])) x (.ins c.onRoad dx (onRoadF (nat b.rd) (.int (b.tn + l.tn))))) x = some (.ins c.onRoad dx (onRoadF (nat b.rd) (.int (b.tn + l.tn)))) := upd_same
      generalize upd (upd (upd H3 dx (.own x)) x (.ins c.onRoad dx [])) x (.ins c.onRoad dx (onRoadF (nat b.rd) (.int (b.tn + l.tn)))) = H4 at s4 x4 ⊢
      have e : b.tn + l.tn = b.tn + tnOf N b.rd := by unfold tnOf; rw [hl]
      have sx : SptAt c H4 x (.rd b.rd (b.tn + tnOf N b.rd)) := ⟨dx, by rw [← e]; exact x4⟩
      refine ⟨_, rfl, p, c.walk, _, _, _, rfl, s4 _ _ h1, T.cl_Walk, T.n_Walk_stood, lk_Walk_stood, _, rfl, ps, _, n, n, rfl, rfl, s4 _ _ t1, ix_in (by rw [List.length_map]; exact ln), ?_⟩
      have t4 := s4 _ _ t1
      have kl : ∀ x o, H4 x = some o → x ≠ ps → (upd H4 ps (.lst ((as.map V.ref).set n (.ref x)))) x = some o := fun x o e n => by rw [upd_ne n]; exact e
      have k4 : ∀ y o, H4 y = some o → y ≠ ps → (upd H4 ps (.lst ((as.map V.ref).set n (.ref x)))) y = some o := fun y o e n => by rw [upd_ne n]; exact e
      have pne : p ≠ ps := ne_of h1 t1 (by intro z; cases z)
      refine ⟨_, rfl, fun y o e n1 n2 => k4 y o (s4 _ _ (kk y o e n1 n2)) n2, ⟨fun y o e => k4 y o (s4 _ _ (w.same y o e)) (fun z => by rw [z, w.gs] at e; cases e), w.gp, w.gs, w.net, ⟨wx, pp, lv, ls, k4 _ _ (s4 _ _ h1) pne, ?_, k4 _ _ (s4 _ _ h3) h5, h4, h5⟩, ⟨as.set n x, ?_, ?_⟩⟩⟩
      · cases lst with
        | none => exact h2
        | some v =>
          obtain ⟨q', z1, z2⟩ := h2
          exact ⟨q', z1, k4 _ _ (s4 _ _ z2) (ne_of z2 t1 (by intro z; cases z))⟩
      · rw [upd_same, ← List.map_set]
      · rw [take_snoc hn, left1_snoc]
        exact Paired.set' (Spt_mut t4 sx) n (L2.Paired.mapP t2 fun a z h => Spt_mut t4 (h.mono s4))
    · rintro σ H3 ⟨o5, rfl, kk, w⟩
      rw [List.length_map, List.take_length] at w
      obtain ⟨wx, pp, lv, ls, h1, h2, h3, h4, h5⟩ := w.at_
      obtain ⟨as, t1, t2⟩ := w.stood
      refine ⟨_, rfl, _, rfl, (by show 2 ≤ sizeLine; decide), fun u hu' => ?_⟩
      have s4 : Same H3 (upd H3 u (.tup [.int b.tn, nat b.rd])) := Same.new hu'
      have u4 : (upd H3 u (.tup [.int b.tn, nat b.rd])) u = some (.tup [.int b.tn, nat b.rd]) := upd_same
      generalize upd H3 u (.tup [.int b.tn, nat b.rd]) = H4 at s4 u4 ⊢
      refine ⟨_, rfl, p, c.walk, wx, _, rfl, s4 _ _ h1, T.cl_Walk, T.n_Walk_last, (by show 4 < 1000; decide), ?_⟩
      rw [pf_Walk_last]
      have p4 := s4 _ _ h1
      have kp : ∀ y o, H4 y = some o → y ≠ p → (upd H4 p (.ins c.walk wx (walkF (.ref pn) (.ref pp) (.ref ps) (.ref u)))) y = some o := fun y o e n => by rw [upd_ne n]; exact e
      refine k _ (fun y o e n1 n2 => kp y o (s4 _ _ (kk y o e n1 n2)) n1) ⟨fun y o e => kp y o (s4 _ _ (w.same y o e)) (fun z => by rw [z, w.gp] at e; cases e), w.gp, w.gs, w.net, ⟨wx, pp, .ref u, ls, upd_same, ⟨u, rfl, kp _ _ u4 (ne_of u4 p4 (by intro z; cases z))⟩, kp _ _ (s4 _ _ h3) (ne_of (s4 _ _ h3) p4 (by intro z; cases z)), h4, h5⟩, ⟨as, kp _ _ (s4 _ _ t1) (ne_of (s4 _ _ t1) p4 (by intro z; cases z)), L2.Paired.mapP t2 fun y t ⟨dx, e⟩ => ⟨dx, kp _ _ (s4 _ _ e) fun z => ?_⟩⟩⟩
      rw [z, h1] at e
      have e := Option.some.inj e
      injection e with _ _ e
      have := congrArg List.length e
      revert this
      cases t <;> (intro z; cases z)
end
end PR
set_option Elab.async false
set_option maxRecDepth 100000
set_option linter.all false
set_option maxHeartbeats 1000000
/-! Plans walked: amiss, stops_at, spots_at. -/
namespace PR
open PySem PySem.Spec PyProof.Rows L2
structure BagGood (N : Nt) (lts : List Lt) (sps : List Spt) (lst : Option (Int × Nat)) (b : Bg) : Prop where
  ne : b.ns ≠ []
  few : b.ns.length ≤ 1000
  up : b.ns.Pairwise (· < ·)
  lt : ∀ n ∈ b.ns, n < lts.length
  ord : ∀ x, lst = some x → x.1 < b.tn ∨ (x.1 = b.tn ∧ x.2 < b.rd)
  line : ∃ l, N.lines[b.rd]? = some l ∧ (b.ns.length : Int) ≤ l.rm ∧ ∀ n ∈ b.ns, ∃ lt sp s, lts[n]? = some lt ∧ sps[n]? = some sp ∧ laterM N lt sp b.tn = .ah l.fr s
def lastOf (bs : List Bg) : Option (Int × Nat) := bs.getLast?.map fun b => (b.tn, b.rd)
theorem lastOf_snoc {bs : List Bg} {b : Bg} : lastOf (bs ++ [b]) = some (b.tn, b.rd) := by
  unfold lastOf
  rw [List.getLast?_concat]
  rfl
theorem SpOk.left1 {N : Nt} {r : Nat} {u : Int} {l : Ln} (hl : N.lines[r]? = some l) : ∀ {ns : List Nat} {sps : List Spt}, SpOk N sps → SpOk N (left1 r u sps ns)
  | [], _, h => h
  | n :: ns, sps, h => SpOk.left1 hl (ns := ns) (sps := sps.set n (.rd r u)) fun r' due m => by
    rcases List.mem_or_eq_of_mem_set m with m | e
    · exact h r' due m
    · cases e
      exact ⟨l, hl⟩
theorem SpOk.rep {N : Nt} {n : Nat} : SpOk N (List.replicate n .ny) := fun r due m => by
  have := (List.mem_replicate.mp m).2
  cases this
theorem sq_last {K : PySem.W.Frag} {mg : Str → Option Value} {c : Cs} (T : Txt K mg c) {D : Ends} {σ : L2.St} {H1 : Hp} {t1 rest : TS} {p wx pn pp ps : Addr} {lv : V} {lst : Option (Int × Nat)} {bt : Int} {br : Nat} (e0 : σ[0]? = some (some (.ref p))) (e2 : σ[2]? = some (some (.int bt))) (e3 : σ[3]? = some (some (nat br)))
    (h1 : H1 p = some (.ins c.walk wx (walkF (.ref pn) (.ref pp) (.ref ps) lv))) (h2 : LastAt H1 lv lst) (ord : ∀ x, lst = some x → x.1 < bt ∨ (x.1 = bt ∧ x.2 < br)) (h : ∀ H2, Same H1 H2 → rest D σ H2) :
    tSeq (tIfS (tAnd (tTest (tOp (fun x y H Q => y = .non ∧ Q (.bl (!decide (x = .non))) H) (tFld K (tVar 0) "last") (tC .non))) (tTest (tOp (rLe2 K) (tTup (tCons (tVar 2) (tCons (tVar 3) tNil))) (tFld K (tVar 0) "last")))) t1 tNext) rest D σ H1 := by
  refine (ans_test (v_notN (val_fld (val_var e0) h1 T.cl_Walk T.n_Walk_last lk_Walk_last))) _ ?_
  cases hlst : lst with
  | none =>
    rw [hlst] at h2
    have h2 : lv = .non := h2
    rw [h2]
    exact iteF (iteF (h H1 (Same.refl _)))
  | some x =>
    rw [hlst] at h2
    obtain ⟨u, rfl, hu1⟩ := h2
    refine iteT ?_
    refine ⟨_, e2, _, e3, (by show 2 ≤ sizeLine; decide), fun r hr1 => ?_⟩
    have s2 : Same H1 (upd H1 r (.tup [.int bt, nat br])) := Same.new hr1
    have r2 : (upd H1 r (.tup [.int bt, nat br])) r = some (.tup [.int bt, nat br]) := upd_same
    generalize upd H1 r (.tup [.int bt, nat br]) = H2 at s2 r2 ⊢
    refine ⟨_, e0, p, c.walk, _, _, _, rfl, s2 _ _ h1, T.cl_Walk, T.n_Walk_last, lk_Walk_last, r, u, bt, (br : Int), x.1, (x.2 : Int), rfl, rfl, SqT.of r2, SqT.of (s2 _ _ hu1), _, rfl, ?_⟩
    have := ord x hlst
    rw [decide_eq_false (show ¬ (bt < x.1 ∨ (bt = x.1 ∧ (br : Int) ≤ (x.2 : Int))) by omega)]
    exact iteF (h H2 s2)
section
variable {P : Program} {w : World} {K : PySem.W.Frag} {mg : Str → Option Value} {base : Heap} {c : Cs}
def spAmiss (c : Cs) : Sp := fun vs H Q _ => ∃ (p ps pn a : Addr) (G : Hp) (N : Nt) (lts : List Lt) (sps : List Spt) (lst : Option (Int × Nat)) (b : Bg), vs = [.ref p, .ref a] ∧ WalkAt c G H p ps pn N lts sps lst ∧ BgAt G a b ∧ BagGood N lts sps lst b ∧ SpOk N sps ∧ ∀ H', Same H H' → Q .non H'
theorem ok_Walk_amiss (T : Txt K mg c) : C8.Met P w K mg base 5 c.walk "amiss" (spAmiss c) [] := by
  refine met_of T.cl_Walk T.d_Walk_amiss sc_Walk_amiss (fun _ _ _ _ _ _ us hl => match us, hl with | [_, _], _ => rfl) (fun vs H Q E h => ?_) (fun f cdv A outer s H vs Q E hr h => ?_)
  · obtain ⟨p, ps, pn, a, G, N, lts, sps, lst, b, rfl, _⟩ := h
    rfl
  · obtain ⟨p, ps, pn, a, G, N, lts, sps, lst, b, rfl, W, hb, good, spo, k⟩ := h
    have hu := hu_of hr
    have T_is_bag := ok_is_bag (P := P) (w := w) (base := base) T
    have T_Walk_are_letters := ok_Walk_are_letters (P := P) (w := w) (base := base) T
    have T_Walk_lies_at := ok_Walk_lies_at (P := P) (w := w) (base := base) T
    refine ⟨_, (pss_cons (ps_if (pt_not (pt_val (C8.pe_c T_is_bag hr (by decide) rfl (pa_cons (pv 1) pa_nil)))) (pss_one (ps_ret pe_str)) pss_nil)
  (pss_cons (ps_asg (pv 1) (pg_tup rfl (pgs_cons (pg_name (i := 2) sc_Walk_amiss.nd rfl (Or.inr rfl)) (pgs_cons (pg_name (i := 3) sc_Walk_amiss.nd rfl (Or.inr rfl)) (pgs_cons (pg_name (i := 4) sc_Walk_amiss.nd rfl (Or.inl rfl)) pgs_nil)))))
  (pss_cons (ps_if (PW.pt (pw_and (pt_cmpR op_notN (pe_fld (pv 0) rfl) pe_non (nomark _)) (pw_and1 (pt_cmpR (op_le2 hr.units0) (pe_tup (pa_cons (pv 2) (pa_cons (pv 3) pa_nil))) (pe_fld (pv 0) rfl) (nomark _))))) (pss_one (ps_ret pe_str)) pss_nil)
  (pss_cons (ps_set (i := 5) sc_Walk_amiss.nd rfl (Or.inr rfl) (pe_fld (pe_fld (pv 0) rfl) rfl))
  (pss_cons (ps_if (pt_not (pt_chain op_le op_lt pe_int (pv 3) (pe_callB call_len_seq (by rfl) T.b_len PySem.boot_len (pa_cons (pv 5) pa_nil)))) (pss_one (ps_ret pe_str)) pss_nil)
  (pss_cons (ps_if (pt_cmpR op_gt (pe_callB call_len_seq (by rfl) T.b_len PySem.boot_len (pa_cons (pv 4) pa_nil)) (pe_ix ix_tup (pe_ix ix_list (pv 5) (pv 3) (fun _ _ => rfl)) pe_int (fun _ _ => rfl)) (nomark _)) (pss_one (ps_ret pe_str)) pss_nil)
  (pss_cons (ps_if (pt_not (pt_val (C8.pe_mt T_Walk_are_letters hr (by decide) (pv 0) (pa_cons (pv 4) pa_nil)))) (pss_one (ps_ret pe_str)) pss_nil)
  (pss_cons (ps_if (pt_not (pt_val (pe_callB (cr_all rfl) (by rfl) T.b_all (by decide +kernel) (pa_cons (pe_lc (own := [("number", 6)]) rfl sc_Walk_amiss.nd (pi_tup (pv 4)) (blkOk_by (own := [("number", 6)]) (N := N_Walk_amiss) (sc := defScope s_Walk_amiss) (by decide +kernel)) (fun _ _ _ _ _ => by exact (pg_name (i := 6) sc_Walk_amiss.nd rfl (Or.inl rfl))) (fun _ _ _ _ _ => by exact pts_nil) (fun _ _ _ _ _ => by exact (C8.pe_mt T_Walk_lies_at hr (by decide) (pv 0) (pa_cons (pv 6) (pa_cons (pe_ix (ix_tupK (K := K) rfl) (pe_ix (ix_listK (K := K) rfl) (pv 5) (pv 3) (fun _ _ => rfl)) pe_int (fun _ _ => rfl)) (pa_cons (pv 2) pa_nil)))))) pa_nil)))) (pss_one (ps_ret pe_str)) pss_nil)
  (pss_one (ps_ret pe_non)))))))))), ?_⟩
    refine ⟨_, rfl, a, b, rfl, hb.mono W.same, good.ne, good.few, fun H1 s1 => ⟨true, rfl, iteF ?_⟩⟩
    have W1 := W.mono s1
    obtain ⟨q, g1, g2⟩ := hb
    refine ⟨_, rfl, a, _, rfl, SqT.of (W1.same _ _ g1), rfl, _, _, rfl, _, _, rfl, _, _, rfl, rfl, ?_⟩
    obtain ⟨l, hl, hrm, hat⟩ := good.line
    obtain ⟨wx1, pp1, lv1, ls1, y1, y2, y3, y4, y5⟩ := W1.at_
    refine sq_last T rfl rfl rfl y1 y2 good.ord fun H2 s2 => ?_
    have W2 := W1.mono s2
    obtain ⟨wx, pp, lv, ls, h1, h2, h3, h4, h5⟩ := W2.at_
    have hN2 := W2.net.mono W2.same
    obtain ⟨dn, an, al, n1, n2, las, n3, n4⟩ := id hN2
    obtain ⟨la, hla, pla⟩ := Paired.at_r n4 hl
    have lla := lt_of_at hla
    have hq : SqT K H2 q (b.ns.map nat) := SqT.of (W2.same _ _ g2)
    refine ⟨_, rfl, p, c.walk, _, _, _, rfl, h1, T.cl_Walk, T.n_Walk_net, lk_Walk_net, pn, c.net, dn, _, _, rfl, n1, T.cl_Net, T.n_Net_lines, lk_Net_lines, ?_⟩
    refine sq_no (σ := [some (.ref p), some (.ref a), some (.int b.tn), some (nat b.rd), some (.ref q), some (.ref al), none]) (Ans.to (ans_not (ans_test (v_lelt (i := 0) (j := (b.rd : Int)) val_c (val_var rfl) (v_lenL (SqL.of n3) (val_var rfl))))) (by
      rw [List.length_map, decide_eq_true (show (0 : Int) ≤ (b.rd : Int) by omega), decide_eq_true (show (b.rd : Int) < (las.length : Int) by omega)]
      rfl)) ?_
    have vl : ∀ σ : L2.St, σ[5]? = some (some (.ref al)) → σ[3]? = some (some (nat b.rd)) → Val (tOp (rIxL K) (tVar 5) (tVar 3)) σ H2 (.ref la) := fun σ e1 e2 => v_ixL (i := (b.rd : Int)) (SqL.of n3) (val_var e1) (val_var e2) (atI_nat (refs_at hla))
    refine sq_no (Ans.to (ans_test (v_gt (v_lenT hq (val_var rfl)) (v_ixTn (j := 3) (SqT.of pla) (vl _ rfl rfl) rfl))) (by
      rw [List.length_map]
      exact decide_eq_false (show ¬ l.rm < (b.ns.length : Int) by omega))) ?_
    refine ⟨_, rfl, p, wx, _, rfl, h1, ln_Walk_are_letters, _, rfl, p, ps, pn, q, G, N, lts, sps, lst, b.ns, rfl, W2, hq, good.up, good.lt, true, rfl, iteF ?_⟩
    refine ⟨_, rfl, q, rfl, ⟨_, hq⟩, fun D hD => lc_tup (xs := b.ns.map nat) (fun i H' => Same H2 H' ∧ H' D = some (.lst ((List.replicate i true).map V.bl))) ⟨Same.new hD, upd_same⟩ (fun _ _ _ h => h.1.seqT hq) ?_ ?_⟩
    · rintro i x H3 hi ⟨s, d⟩
      obtain ⟨n, hn, rfl⟩ := map_of hi
      have li := lt_of_at hn
      obtain ⟨lt, sp, sn, z1, z2, z3⟩ := hat n (List.mem_of_getElem? hn)
      have few := good.few
      refine ⟨rfl, ?_⟩
      refine ⟨_, rfl, p, wx, _, rfl, s _ _ h1, ln_Walk_lies_at, ?_⟩
      refine cons_go (nat n) (val_var rfl) (cons_go (.str l.fr) (v_ixTn (j := 0) (SqT.of (pla.mono s)) (v_ixL (i := (b.rd : Int)) (SqL.of (s _ _ n3)) (val_var rfl) (val_var rfl) (atI_nat (refs_at hla))) rfl) (cons_go (.int b.tn) (val_var rfl) ?_))
      refine ⟨p, ps, pn, G, N, lts, sps, lst, n, l.fr, b.tn, lt, sp, sn, rfl, W2.mono s, z1, z2, fun r due e => spo r due (by rw [← e]; exact List.mem_of_getElem? z2), z3, fun H4 s4 => ?_⟩
      refine ⟨_, s4 _ _ d, sz_lt (by rw [List.length_map, List.length_replicate]; omega), (s.trans s4).mut hD, ?_⟩
      rw [upd_same, List.replicate_succ', List.map_append]
      rfl
    · rintro H3 ⟨s, d⟩
      refine ⟨D, _, rfl, SqL.of d, ?_⟩
      rw [all_true]
      exact ⟨true, rfl, iteF (k H3 (s1.trans (s2.trans s)))⟩
structure PlanOk (N : Nt) (lts : List Lt) (bs : List Bg) (t : Int) : Prop where
  good : ∀ i b, bs[i]? = some b → BagGood N lts (leftM N (List.replicate lts.length .ny) (bs.take i)) (lastOf (bs.take i)) b
  past : ∀ b ∈ bs, b.tn ≤ t
def spStops (c : Cs) : Sp := fun vs H Q _ => ∃ (pn ql qp : Addr) (N : Nt) (lts : List Lt) (bs : List Bg) (t : Int), vs = [.ref pn, .ref ql, .ref qp, .int t] ∧ NetAt c H pn N ∧ LOf (LtAt H) H ql lts ∧ LOf (BgAt H) H qp bs ∧ lts.length ≤ 40 ∧ PlanOk N lts bs t ∧
  ∀ H' l as, Same H H' → H' l = some (.lst (as.map V.ref)) → Paired (SptAt c H') as (leftM N (List.replicate lts.length .ny) bs) → Q (.ref l) H'
theorem ok_stops_at (T : Txt K mg c) : C8.Cal P w K mg base 6 "stops_at" (spStops c) [] := by
  refine cal_of T.d_stops_at sc_stops_at (fun _ _ _ _ _ _ us hl => match us, hl with | [_, _, _, _], _ => rfl) (fun vs H Q E h => ?_) (fun f cdv A outer s H vs Q E hr h => ?_)
  · obtain ⟨pn, ql, qp, N, lts, bs, t, rfl, _⟩ := h
    rfl
  · obtain ⟨pn, ql, qp, N, lts, bs, t, rfl, hN, hlt, ⟨qs, q1, q2⟩, few, plan, k⟩ := h
    have hu := hu_of hr
    have T_Walk := ok_Walk_init (P := P) (w := w) (base := base) T
    have T_Walk_amiss := ok_Walk_amiss (P := P) (w := w) (base := base) T
    have T_Walk_send := ok_Walk_send (P := P) (w := w) (base := base) T
    refine ⟨_, (pss_cons (ps_set (i := 4) sc_stops_at.nd rfl (Or.inl rfl) (C8.pe_mk T_Walk hr (by decide) rfl (pa_cons (pv 0) (pa_cons (pv 1) pa_nil))))
  (pss_cons (ps_set (i := 5) sc_stops_at.nd rfl (Or.inl rfl) pe_non)
  (pss_cons (ps_for PassesOwn.never rfl (pi_enum (by rfl) T.b_enumerate (pa_cons (pv 2) pa_nil)) (pg_tup rfl (pgs_cons (pg_name (i := 6) sc_stops_at.nd rfl (Or.inl rfl)) (pgs_cons (pg_name (i := 7) sc_stops_at.nd rfl (Or.inl rfl)) pgs_nil))) (pss_cons (ps_set (i := 8) sc_stops_at.nd rfl (Or.inl rfl) (C8.pe_mt T_Walk_amiss hr (by decide) (pv 4) (pa_cons (pv 7) pa_nil)))
  (pss_cons (ps_if (pt_cmpR op_notN (pv 8) pe_non (nomark _)) (pss_one ps_never) pss_nil)
  (pss_cons (ps_if (PW.pt (pw_and (pt_cmpR op_isN (pv 5) pe_non (nomark _)) (pw_and (pt_cmpR op_notN (pv 3) pe_non (nomark _)) (pw_and1 (pt_cmpR op_gt (pe_ix ix_tup (pv 7) pe_int (fun _ _ => rfl)) (pv 3) (nomark _)))))) (pss_one (ps_set (i := 5) sc_stops_at.nd rfl (Or.inl rfl) (pe_callTy call_list_of (by rfl) T.b_list (by decide +kernel) (pa_cons (pe_fld (pv 4) rfl) pa_nil)))) pss_nil)
  (pss_one (ps_expr (C8.pe_mt T_Walk_send hr (by decide) (pv 4) (pa_cons (pv 7) pa_nil))))))))
  (pss_cons (ps_if (pt_cmpR op_isN (pv 5) pe_non (nomark _)) (pss_one (ps_set (i := 5) sc_stops_at.nd rfl (Or.inl rfl) (pe_fld (pv 4) rfl))) pss_nil)
  (pss_one (ps_ret (pv 5))))))), ?_⟩
    refine ⟨_, rfl, _, rfl, ?_⟩
    intro x dx hx hdx ne
    have s0 : Same H (upd (upd H dx (.own x)) x (.ins c.walk dx [])) := fun b o e => by rw [upd_ne (ne_of_none e hx), upd_ne (ne_of_none e hdx)]; exact e
    refine ⟨x, dx, pn, ql, H, N, lts, rfl, upd_same, s0, hx, hN, hlt, few, fun H1 ps k1 hps W1 => ⟨rfl, ?_⟩⟩
    refine ⟨_, rfl, qp, _, rfl, SqL.of (W1.same _ _ q1), ?_⟩
    refine for_it walk_enum (fun i σ H' => ∃ (o6 o7 o8 : Option V), σ = [some (.ref pn), some (.ref ql), some (.ref qp), some (.int t), some (.ref x), some .non, o6, o7, o8] ∧ WalkAt c H H' x ps pn N lts (leftM N (List.replicate lts.length .ny) (bs.take i)) (lastOf (bs.take i)) ∧ SpOk N (leftM N (List.replicate lts.length .ny) (bs.take i)))
      ⟨_, _, _, rfl, W1, SpOk.rep⟩ (fun i σ H' _ ⟨_, _, _, _, w, _⟩ => SqL.of (w.same _ _ q1)) ?_ ?_
    · rintro i v σ H2 H3 hi ⟨o6, o7, o8, rfl, W2, spo⟩ ⟨U, x1, x2, rfl, hU, rfl, e1, e2⟩
      cases e1
      obtain ⟨a, ha, rfl⟩ := map_of e2
      obtain ⟨b, hb, hba⟩ := Paired.at_l q2 ha
      have good := plan.good i b hb
      obtain ⟨l, hl, hrm, hat⟩ := good.line
      have s3 : Same H2 (upd H2 U (.tup [.int (i : Int), .ref a])) := Same.new hU
      have u3 : (upd H2 U (.tup [.int (i : Int), .ref a])) U = some (.tup [.int (i : Int), .ref a]) := upd_same
      generalize upd H2 U (.tup [.int (i : Int), .ref a]) = H3 at s3 u3 ⊢
      refine ⟨U, _, rfl, SqT.of u3, rfl, _, _, rfl, _, _, rfl, rfl, ?_⟩
      have W3 := W2.mono s3
      obtain ⟨wx, pp, lv, ls, h1, h2, h3, h4, h5⟩ := id W3.at_
      refine ⟨_, rfl, x, wx, _, rfl, h1, ln_Walk_amiss, _, rfl, x, ps, pn, a, H, N, lts, _, _, b, rfl, W3, hba, good, spo, fun H4 s4 => ?_⟩
      have W4 := W3.mono s4
      have hT : SqT K H4 a _ := SqT.of (W4.same _ _ (Classical.choose_spec hba).1)
      refine sq_no (Ans.to (ans_test (v_notN (val_var rfl))) rfl) ?_
      refine sq_no (Ans.to (ans_and' (ans_test (v_isN (val_var rfl))) fun _ => ans_and' (ans_test (v_notN (val_var rfl))) fun _ => ans_test (v_gt (j := t) (v_ixTn (j := 0) hT (val_var rfl) rfl) (val_var rfl))) (by
        have := plan.past b (List.mem_of_getElem? hb)
        rw [decide_eq_false (show ¬ t < b.tn by omega)]
        rfl)) ?_
      refine ⟨_, rfl, x, wx, _, rfl, s4 _ _ h1, ln_Walk_send, _, rfl, x, ps, pn, a, H, N, lts, _, _, b, l, rfl, W4, hba, hl, fun n hn => ?_, fun H5 k5 W5 => ?_⟩
      · rw [leftM_len, List.length_replicate]
        exact good.lt n hn
      · refine ⟨_, _, _, rfl, ?_, ?_⟩
        · rw [take_snoc hb, leftM_snoc, lastOf_snoc]
          exact W5
        · rw [take_snoc hb, leftM_snoc]
          exact SpOk.left1 hl spo
    · rintro σ H2 ⟨o6, o7, o8, rfl, W2, spo⟩
      rw [List.length_map, q2.length, List.take_length] at W2
      obtain ⟨wx, pp, lv, ls, h1, h2, h3, h4, h5⟩ := id W2.at_
      obtain ⟨as, t1, t2⟩ := W2.stood
      refine sq_seq (st_yes (Ans.to (ans_test (v_isN (val_var rfl))) rfl) ?_)
      refine ⟨_, rfl, x, c.walk, _, _, _, rfl, h1, T.cl_Walk, T.n_Walk_stood, lk_Walk_stood, ?_⟩
      exact st_ret (val_var rfl) (k H2 ps as W2.same t1 t2)
def spSpots (c : Cs) : Sp := fun vs H Q _ => ∃ (pn ql qp : Addr) (N : Nt) (lts : List Lt) (bs : List Bg) (t : Int), vs = [.ref pn, .ref ql, .ref qp, .int t] ∧ NetAt c H pn N ∧ LOf (LtAt H) H ql lts ∧ LOf (BgAt H) H qp bs ∧ lts.length ≤ 40 ∧ PlanOk N lts bs t ∧ SpOk N (leftM N (List.replicate lts.length .ny) bs) ∧
  ∀ H' l as, Same H H' → H' l = some (.lst (as.map V.ref)) → Paired (SptAt c H') as (settled N lts (leftM N (List.replicate lts.length .ny) bs) t) → Q (.ref l) H'
theorem ok_spots_at (T : Txt K mg c) : C8.Cal P w K mg base 7 "spots_at" (spSpots c) [] := by
  refine cal_of T.d_spots_at sc_spots_at (fun _ _ _ _ _ _ us hl => match us, hl with | [_, _, _, _], _ => rfl) (fun vs H Q E h => ?_) (fun f cdv A outer s H vs Q E hr h => ?_)
  · obtain ⟨pn, ql, qp, N, lts, bs, t, rfl, _⟩ := h
    rfl
  · obtain ⟨pn, ql, qp, N, lts, bs, t, rfl, hN, hlt, hq, few, plan, spo, k⟩ := h
    have hu := hu_of hr
    have T_stops_at := ok_stops_at (P := P) (w := w) (base := base) T
    have T_later := ok_later (P := P) (w := w) (base := base) T
    refine ⟨_, (pss_cons (ps_set (i := 4) sc_spots_at.nd rfl (Or.inl rfl) (C8.pe_c T_stops_at hr (by decide) rfl (pa_cons (pv 0) (pa_cons (pv 1) (pa_cons (pv 2) (pa_cons (pv 3) pa_nil))))))
  (pss_one (ps_ret (pe_lc (own := [("letter", 5), ("spot", 6)]) rfl sc_spots_at.nd (pi_zip (by rfl) T.b_zip (pa_cons (pv 1) (pa_cons (pv 4) pa_nil))) (blkOk_by (own := [("letter", 5), ("spot", 6)]) (N := N_spots_at) (sc := defScope s_spots_at) (by decide +kernel)) (fun _ _ _ _ _ => by exact (pg_tupK (K := K) 2 rfl rfl (pgs_cons (pg_name (i := 5) sc_spots_at.nd rfl (Or.inl rfl)) (pgs_cons (pg_name (i := 6) sc_spots_at.nd rfl (Or.inl rfl)) pgs_nil)))) (fun _ _ _ _ _ => by exact pts_nil) (fun _ _ _ _ _ => by exact (C8.pe_c T_later hr (by decide) rfl (pa_cons (pv 0) (pa_cons (pv 5) (pa_cons (pv 6) (pa_cons (pv 3) pa_nil)))))))))), ?_⟩
    refine ⟨_, rfl, _, rfl, _, rfl, _, rfl, pn, ql, qp, N, lts, bs, t, rfl, hN, hlt, hq, few, plan, fun H1 pl as s1 t1 t2 => ?_⟩
    obtain ⟨ls, l1, l2⟩ := hlt
    generalize hS : leftM N (List.replicate lts.length .ny) bs = sps at t2 spo k
    have lS : sps.length = lts.length := by rw [← hS, leftM_len, List.length_replicate]
    have ll := l2.length
    have tl := t2.length
    have l1' := s1 _ _ l1
    refine ⟨_, rfl, _, rfl, ql, pl, _, _, rfl, SqL.of l1', SqL.of t1, fun Dl hD => ?_⟩
    refine lc_it (walk_zip (xs := ls.map V.ref) (ys := as.map V.ref) (n := lts.length) (by rw [List.length_map, List.length_map]; omega)) (fun i H' => ∃ bs : List Addr, Same H1 H' ∧ H' Dl = some (.lst (bs.map V.ref)) ∧ Paired (SptAt c H') bs (settled N (lts.take i) (sps.take i) t)) ⟨[], Same.new hD, upd_same, .nil⟩ (fun _ _ _ ⟨_, s, _, _⟩ => ⟨SqL.of (s _ _ l1'), SqL.of (s _ _ t1)⟩) ?_ ?_
    · rintro i x H2 H3 hi ⟨bs, s, d1, pb⟩ ⟨U, x1, x2, rfl, hU, rfl, e1, e2⟩
      obtain ⟨la, ha, rfl⟩ := map_of e1
      obtain ⟨sa, hb, rfl⟩ := map_of e2
      obtain ⟨lt, hlt, hla⟩ := Paired.at_l l2 ha
      obtain ⟨sp, hsp, hsa⟩ := Paired.at_l t2 hb
      have s2 : Same H2 (upd H2 U (.tup [.ref la, .ref sa])) := Same.new hU
      have u2 : (upd H2 U (.tup [.ref la, .ref sa])) U = some (.tup [.ref la, .ref sa]) := upd_same
      generalize upd H2 U (.tup [.ref la, .ref sa]) = H3 at s2 u2 ⊢
      have sH3 := s.trans s2
      refine ⟨U, _, rfl, SqT.of u2, rfl, _, _, rfl, _, _, rfl, rfl, rfl, ?_⟩
      refine ⟨_, rfl, _, rfl, _, rfl, _, rfl, ?_⟩
      refine ⟨pn, N, la, lt, sa, sp, t, rfl, hN.mono (s1.trans sH3), hla.mono (s1.trans sH3), hsa.mono sH3, fun r due e => spo r due (by rw [← e]; exact List.mem_of_getElem? hsp), fun a' H4 s4 sp4 _ => ?_⟩
      have bl : bs.length = i := by
        rw [pb.length, settled_len (by rw [List.length_take, List.length_take]; omega), List.length_take]
        omega
      refine ⟨_, s4 _ _ (s2 _ _ d1), sz_lt (by rw [List.length_map]; omega), bs ++ [a'], (sH3.trans s4).mut hD, ?_, ?_⟩
      · rw [upd_same, List.map_append]
        rfl
      · rw [settled_take hlt hsp]
        have e3 := s4 _ _ (s2 _ _ d1)
        exact Paired.app (L2.Paired.mapP pb fun b t h => Spt_mut e3 (h.mono (s2.trans s4))) (.cons (Spt_mut e3 sp4) .nil)
    · rintro H2 ⟨bs, s, d1, pb⟩
      rw [List.take_length, ← lS, List.take_length] at pb
      exact k H2 Dl bs (s1.trans s) d1 pb
end
end PR
set_option Elab.async false
set_option maxRecDepth 100000
set_option linter.all false
set_option maxHeartbeats 1000000
/-! The plain law: the log walked tells where the letters are. -/
namespace PR
open PySem PySem.Spec PyProof.Rows L2
/-- the law's own row of a letter: house, since, the road it came by -/
structure Wc where
  (h : Str) (s : Int) (by_ : Option Nat)
def w0 (lts : List Lt) : List Wc := lts.map fun t => ⟨t.hs, t.tn, none⟩
def toOf (N : Nt) (r : Nat) : Str := match N.lines[r]? with
  | some l => l.to
  | none => ""
def sets {α : Type} (x : α) (xs : List α) (ns : List Nat) : List α := ns.foldl (fun s n => s.set n x) xs
def stepC (N : Nt) (b : Bg) : Wc := ⟨toOf N b.rd, b.tn + tnOf N b.rd, some b.rd⟩
def runW (N : Nt) (ws : List Wc) (bs : List Bg) : List Wc := bs.foldl (fun s b => sets (stepC N b) s b.ns) ws
section
variable {α : Type} {x : α}
theorem sets_len : ∀ (ns : List Nat) (xs : List α), (sets x xs ns).length = xs.length
  | [], _ => rfl
  | n :: ns, xs => (sets_len ns (xs.set n x)).trans List.length_set
theorem sets_out : ∀ {ns : List Nat} {xs : List α} {n : Nat}, n ∉ ns → (sets x xs ns)[n]? = xs[n]?
  | [], _, _, _ => rfl
  | m :: ns, xs, n, h => by
    have e := sets_out (ns := ns) (xs := xs.set m x) (n := n) fun z => h (List.mem_cons_of_mem _ z)
    have ne : m ≠ n := fun z => h (by rw [z]; exact List.mem_cons_self)
    show (sets x (xs.set m x) ns)[n]? = _
    rw [e, List.getElem?_set_ne ne]
theorem sets_in : ∀ {ns : List Nat} {xs : List α} {n : Nat}, n ∈ ns → n < xs.length → (sets x xs ns)[n]? = some x
  | m :: ns, xs, n, h, hl => by
    show (sets x (xs.set m x) ns)[n]? = _
    by_cases q : n ∈ ns
    · exact sets_in q (by rw [List.length_set]; exact hl)
    · rw [sets_out q]
      rcases List.mem_cons.mp h with rfl | z
      · rw [List.getElem?_set_self hl]
      · exact absurd z q
theorem sets_app {ys : List α} : ∀ {ns : List Nat} {xs : List α}, (∀ n ∈ ns, n < xs.length) → sets x (xs ++ ys) ns = sets x xs ns ++ ys
  | [], _, _ => rfl
  | m :: ns, xs, h => by
    show sets x ((xs ++ ys).set m x) ns = sets x (xs.set m x) ns ++ ys
    rw [List.set_append_left _ _ (h m List.mem_cons_self)]
    exact sets_app fun n hn => by rw [List.length_set]; exact h n (List.mem_cons_of_mem _ hn)
end
theorem runW_len (N : Nt) : ∀ (bs : List Bg) (ws : List Wc), (runW N ws bs).length = ws.length
  | [], _ => rfl
  | b :: bs, ws => (runW_len N bs _).trans (sets_len _ _)
theorem runW_snoc {N : Nt} {ws : List Wc} {bs : List Bg} {b : Bg} : runW N ws (bs ++ [b]) = sets (stepC N b) (runW N ws bs) b.ns := by
  unfold runW
  rw [List.foldl_append]
  rfl
theorem runW_app {N : Nt} {ws : List Wc} {bs cs : List Bg} : runW N ws (bs ++ cs) = runW N (runW N ws bs) cs := by
  unfold runW
  rw [List.foldl_append]
theorem runW_ext {N : Nt} {ys : List Wc} : ∀ {bs : List Bg} {ws : List Wc}, (∀ b ∈ bs, ∀ n ∈ b.ns, n < ws.length) → runW N (ws ++ ys) bs = runW N ws bs ++ ys
  | [], _, _ => rfl
  | b :: bs, ws, h => by
    show runW N (sets (stepC N b) (ws ++ ys) b.ns) bs = runW N (sets (stepC N b) ws b.ns) bs ++ ys
    rw [sets_app (h b List.mem_cons_self)]
    exact runW_ext fun c hc n hn => by rw [sets_len]; exact h c (List.mem_cons_of_mem _ hc) n hn
theorem runW_out {N : Nt} {n : Nat} : ∀ {bs : List Bg} {ws : List Wc}, (∀ b ∈ bs, n ∉ b.ns) → (runW N ws bs)[n]? = ws[n]?
  | [], _, _ => rfl
  | b :: bs, ws, h => by
    show (runW N (sets (stepC N b) ws b.ns) bs)[n]? = _
    rw [runW_out fun c hc => h c (List.mem_cons_of_mem _ hc), sets_out (h b List.mem_cons_self)]
/-- where a letter is at turn t by its row -/
def dueS (lt : Lt) (w : Wc) (t : Int) : Spt := if t < w.s then (match w.by_ with
  | some r => .rd r w.s
  | none => .ny) else if w.h = lt.gl then .hm w.s else .ah w.h w.s
structure Rel (lo : Int) (N : Nt) (lt : Lt) (w : Wc) (sp : Spt) : Prop where
  li : ∀ r, w.by_ = some r → ∃ l, N.lines[r]? = some l ∧ l.to = w.h
  st : w.by_ = none → w.h = lt.hs ∧ w.s = lt.tn ∧ lt.hs ≠ lt.gl
  eq : ∀ t, lo ≤ t → laterM N lt sp t = dueS lt w t
theorem later_due {N : Nt} {lt : Lt} {w : Wc} (li : ∀ r, w.by_ = some r → ∃ l, N.lines[r]? = some l ∧ l.to = w.h) (st : w.by_ = none → w.h = lt.hs ∧ w.s = lt.tn ∧ lt.hs ≠ lt.gl) {a t : Int} (h : a ≤ t) : laterM N lt (dueS lt w a) t = dueS lt w t := by
  unfold dueS
  by_cases q : a < w.s
  · rw [if_pos q]
    cases e : w.by_ with
    | some r =>
      obtain ⟨l, hl, ht⟩ := li r e
      show (if w.s ≤ t then (match N.lines[r]? with
        | some l => if l.to = lt.gl then Spt.hm w.s else .ah l.to w.s
        | none => .rd r w.s) else .rd r w.s) = _
      rw [hl]
      show (if w.s ≤ t then (if l.to = lt.gl then Spt.hm w.s else .ah l.to w.s) else .rd r w.s) = (if t < w.s then Spt.rd r w.s else if w.h = lt.gl then .hm w.s else .ah w.h w.s)
      rw [ht]
      by_cases z : w.s ≤ t
      · rw [if_pos z, if_neg (show ¬ t < w.s by omega)]
      · rw [if_neg z, if_pos (show t < w.s by omega)]
    | none =>
      obtain ⟨h1, h2, h3⟩ := st e
      show (if lt.tn ≤ t then Spt.ah lt.hs lt.tn else .ny) = _
      rw [h2, h1]
      by_cases z : lt.tn ≤ t
      · rw [if_pos z, if_neg (by omega), if_neg h3]
      · rw [if_neg z, if_pos (by omega)]
  · rw [if_neg q, if_neg (show ¬ t < w.s by omega)]
    by_cases z : w.h = lt.gl
    · rw [if_pos z]
      rfl
    · rw [if_neg z]
      rfl
theorem Rel.settle {lo now : Int} {N : Nt} {lt : Lt} {w : Wc} {sp : Spt} (r : Rel lo N lt w sp) (h : lo ≤ now) : Rel now N lt w (laterM N lt sp now) :=
  ⟨r.li, r.st, fun t ht => by rw [r.eq now h]; exact later_due r.li r.st ht⟩
theorem Rel.up {lo lo' : Int} {N : Nt} {lt : Lt} {w : Wc} {sp : Spt} (r : Rel lo N lt w sp) (h : lo ≤ lo') : Rel lo' N lt w sp := ⟨r.li, r.st, fun t ht => r.eq t (by omega)⟩
theorem rel_rd {lo : Int} {N : Nt} {lt : Lt} {r : Nat} {u : Int} {l : Ln} (hl : N.lines[r]? = some l) : Rel lo N lt ⟨toOf N r, u, some r⟩ (.rd r u) := by
  have e : toOf N r = l.to := by unfold toOf; rw [hl]
  refine ⟨fun r' h => ?_, (fun h => by cases h), fun t _ => ?_⟩
  · cases h
    exact ⟨l, hl, e.symm⟩
  · show (if u ≤ t then (match N.lines[r]? with
        | some l => if l.to = lt.gl then Spt.hm u else .ah l.to u
        | none => .rd r u) else .rd r u) = (if t < u then Spt.rd r u else if toOf N r = lt.gl then .hm u else .ah (toOf N r) u)
    rw [hl]
    show (if u ≤ t then (if l.to = lt.gl then Spt.hm u else .ah l.to u) else .rd r u) = (if t < u then Spt.rd r u else if toOf N r = lt.gl then .hm u else .ah (toOf N r) u)
    rw [e]
    by_cases z : u ≤ t
    · rw [if_pos z, if_neg (show ¬ t < u by omega)]
    · rw [if_neg z, if_pos (show t < u by omega)]
theorem rel_ny {lo : Int} {N : Nt} {lt : Lt} (h : lt.hs ≠ lt.gl) : Rel lo N lt ⟨lt.hs, lt.tn, none⟩ .ny :=
  ⟨(fun r z => by cases z), fun _ => ⟨rfl, rfl, h⟩, fun t _ => (by
    show (if lt.tn ≤ t then Spt.ah lt.hs lt.tn else .ny) = (if t < lt.tn then Spt.ny else if lt.hs = lt.gl then .hm lt.tn else .ah lt.hs lt.tn)
    by_cases z : lt.tn ≤ t
    · rw [if_pos z, if_neg (by omega), if_neg h]
    · rw [if_neg z, if_pos (by omega)])⟩
theorem rel_ah {N : Nt} {lt : Lt} (h : lt.hs ≠ lt.gl) : Rel lt.tn N lt ⟨lt.hs, lt.tn, none⟩ (.ah lt.hs lt.tn) :=
  ⟨(fun r z => by cases z), fun _ => ⟨rfl, rfl, h⟩, fun t ht => (by
    show Spt.ah lt.hs lt.tn = (if t < lt.tn then Spt.ny else if lt.hs = lt.gl then .hm lt.tn else .ah lt.hs lt.tn)
    rw [if_neg (by omega), if_neg h])⟩
structure RelAll (lo : Int) (N : Nt) (lts : List Lt) (W : List Wc) (S : List Spt) : Prop where
  lw : W.length = lts.length
  ls : S.length = lts.length
  all : ∀ (n : Nat) (lt : Lt) (w : Wc) (sp : Spt), lts[n]? = some lt → W[n]? = some w → S[n]? = some sp → Rel lo N lt w sp
theorem RelAll.up {lo lo' : Int} {N : Nt} {lts : List Lt} {W : List Wc} {S : List Spt} (r : RelAll lo N lts W S) (h : lo ≤ lo') : RelAll lo' N lts W S := ⟨r.lw, r.ls, fun n lt w sp a b c => (r.all n lt w sp a b c).up h⟩
theorem RelAll.settle {lo now : Int} {N : Nt} {lts : List Lt} {W : List Wc} {S : List Spt} (r : RelAll lo N lts W S) (h : lo ≤ now) : RelAll now N lts W (settled N lts S now) := by
  refine ⟨r.lw, settled_len r.ls.symm, fun n lt w sp a b c => ?_⟩
  obtain ⟨s, hs⟩ := at_of_lt (show n < S.length by rw [r.ls]; exact lt_of_at a)
  rw [settled_at a hs] at c
  cases c
  exact (r.all n lt w s a b hs).settle h
theorem RelAll.step {lo : Int} {N : Nt} {lts : List Lt} {W : List Wc} {S : List Spt} {b : Bg} {l : Ln} (r : RelAll lo N lts W S) (hl : N.lines[b.rd]? = some l) : RelAll lo N lts (sets (stepC N b) W b.ns) (left1 b.rd (b.tn + tnOf N b.rd) S b.ns) := by
  refine ⟨by rw [sets_len]; exact r.lw, by rw [left1_len]; exact r.ls, fun n lt w sp h1 h2 h3 => ?_⟩
  have h3 : (sets (Spt.rd b.rd (b.tn + tnOf N b.rd)) S b.ns)[n]? = some sp := h3
  have ln := lt_of_at h1
  by_cases q : n ∈ b.ns
  · rw [sets_in q (by rw [r.lw]; exact ln)] at h2
    rw [sets_in q (by rw [r.ls]; exact ln)] at h3
    cases h2
    cases h3
    exact rel_rd hl
  · rw [sets_out q] at h2 h3
    exact r.all n lt w sp h1 h2 h3
theorem RelAll.run {lo : Int} {N : Nt} {lts : List Lt} : ∀ {bs : List Bg} {W : List Wc} {S : List Spt}, (∀ b ∈ bs, ∃ l, N.lines[b.rd]? = some l) → RelAll lo N lts W S → RelAll lo N lts (runW N W bs) (leftM N S bs)
  | [], _, _, _, r => r
  | b :: bs, _, _, h, r => by
    obtain ⟨l, hl⟩ := h b List.mem_cons_self
    exact RelAll.run (bs := bs) (fun c hc => h c (List.mem_cons_of_mem _ hc)) (r.step hl)
theorem relAll_ny {lo : Int} {N : Nt} {lts : List Lt} (h : ∀ t ∈ lts, t.hs ≠ t.gl) : RelAll lo N lts (w0 lts) (List.replicate lts.length .ny) := by
  refine ⟨by unfold w0; rw [List.length_map], List.length_replicate, fun n lt w sp h1 h2 h3 => ?_⟩
  unfold w0 at h2
  rw [map_at _ h1] at h2
  cases h2
  have := List.mem_of_getElem? h3
  rw [(List.mem_replicate.mp this).2]
  exact rel_ny (h lt (List.mem_of_getElem? h1))
/-- a bag fits the rows -/
structure BagFits (N : Nt) (lts : List Lt) (W : List Wc) (b : Bg) : Prop where
  ne : b.ns ≠ []
  up : b.ns.Pairwise (· < ·)
  line : ∃ l, N.lines[b.rd]? = some l ∧ (b.ns.length : Int) ≤ l.rm ∧ ∀ n ∈ b.ns, ∃ lt w, lts[n]? = some lt ∧ W[n]? = some w ∧ w.h = l.fr ∧ w.s ≤ b.tn ∧ w.h ≠ lt.gl
theorem BagFits.lt {N : Nt} {lts : List Lt} {W : List Wc} {b : Bg} (f : BagFits N lts W b) : ∀ n ∈ b.ns, n < lts.length := fun n hn => by
  obtain ⟨l, _, _, h⟩ := f.line
  obtain ⟨lt, w, z, _⟩ := h n hn
  exact lt_of_at z
theorem inc_len : ∀ {ns : List Nat} {k m : Nat}, ns.Pairwise (· < ·) → (∀ n ∈ ns, k ≤ n ∧ n < m) → k + ns.length ≤ m ∨ ns = []
  | [], _, _, _, _ => .inr rfl
  | n :: ns, k, m, h, b => by
    obtain ⟨h1, h2⟩ := List.pairwise_cons.mp h
    have hn := b n List.mem_cons_self
    rcases inc_len (k := n + 1) (m := m) h2 (fun x hx => ⟨h1 x hx, (b x (List.mem_cons_of_mem _ hx)).2⟩) with q | q
    · left
      rw [List.length_cons]
      omega
    · left
      rw [q]
      show k + 1 ≤ m
      omega
theorem inc_few {ns : List Nat} {m : Nat} (h : ns.Pairwise (· < ·)) (b : ∀ n ∈ ns, n < m) : ns.length ≤ m := by
  rcases inc_len (k := 0) h fun n hn => ⟨Nat.zero_le _, b n hn⟩ with q | q
  · omega
  · rw [q]
    exact Nat.zero_le _
theorem BagFits.good {N : Nt} {lts : List Lt} {W : List Wc} {S : List Spt} {lst : Option (Int × Nat)} {b : Bg} (f : BagFits N lts W b) (few : lts.length ≤ 1000) (r : RelAll b.tn N lts W S) (ord : ∀ x, lst = some x → x.1 < b.tn ∨ (x.1 = b.tn ∧ x.2 < b.rd)) : BagGood N lts S lst b := by
  obtain ⟨l, hl, hrm, h⟩ := f.line
  refine ⟨f.ne, Nat.le_trans (inc_few f.up f.lt) few, f.up, f.lt, ord, l, hl, hrm, fun n hn => ?_⟩
  obtain ⟨lt, w, h1, h2, h3, h4, h5⟩ := h n hn
  obtain ⟨sp, hs⟩ := at_of_lt (show n < S.length by rw [r.ls]; exact lt_of_at h1)
  refine ⟨lt, sp, w.s, h1, hs, ?_⟩
  rw [(r.all n lt w sp h1 h2 hs).eq b.tn (Int.le_refl _)]
  unfold dueS
  rw [if_neg (by omega), if_neg h5, h3]
def LogOk (N : Nt) (lts : List Lt) (bs : List Bg) : Prop := ∀ (i : Nat) (b : Bg), bs[i]? = some b → BagFits N lts (runW N (w0 lts) (bs.take i)) b
def Bef (a b : Bg) : Prop := a.tn < b.tn ∨ (a.tn = b.tn ∧ a.rd < b.rd)
theorem LogOk.lt {N : Nt} {lts : List Lt} {bs : List Bg} (h : LogOk N lts bs) : ∀ b ∈ bs, ∀ n ∈ b.ns, n < lts.length := fun b hb => by
  obtain ⟨i, hi⟩ := List.mem_iff_getElem?.mp hb
  exact (h i b hi).lt
theorem LogOk.line {N : Nt} {lts : List Lt} {bs : List Bg} (h : LogOk N lts bs) : ∀ b ∈ bs, ∃ l, N.lines[b.rd]? = some l := fun b hb => by
  obtain ⟨i, hi⟩ := List.mem_iff_getElem?.mp hb
  obtain ⟨l, hl, _⟩ := (h i b hi).line
  exact ⟨l, hl⟩
structure Good (first : Int) (D : Dy) (kst : List (List Key × V)) : Prop where
  len : D.lts.length = D.sps.length
  lets : ∀ t ∈ D.lts, LtOk D.N t ∧ first ≤ t.tn ∧ t.tn ≤ D.tn ∧ t.tn ≤ first + 30
  log : LogOk D.N D.lts D.bs
  ord : D.bs.Pairwise Bef
  turns : ∀ b ∈ D.bs, first ≤ b.tn ∧ b.tn < D.tn
  rel : RelAll D.tn D.N D.lts (runW D.N (w0 D.lts) D.bs) D.sps
  shut : ∀ kv ∈ kst, ∃ t r : Int, kv.1 = [Sum.inl t, Sum.inl r] ∧ t < D.tn ∧ ∀ b ∈ D.bs, ¬ (b.tn = t ∧ (b.rd : Int) = r)
  spo : SpOk D.N D.sps
  fi : first ≤ D.tn
theorem Good.post {first : Int} {D : Dy} {kst : List (List Key × V)} (g : Good first D kst) {h gl : Str} (ok : LtOk D.N ⟨h, D.tn, gl⟩) (t30 : D.tn ≤ first + 30) : Good first { D with lts := D.lts ++ [⟨h, D.tn, gl⟩], sps := D.sps ++ [.ah h D.tn] } kst := by
  have ew : w0 (D.lts ++ [⟨h, D.tn, gl⟩]) = w0 D.lts ++ [⟨h, D.tn, none⟩] := by unfold w0; rw [List.map_append] <;> rfl
  have lw : (w0 D.lts).length = D.lts.length := by unfold w0; rw [List.length_map]
  have er : ∀ cs : List Bg, (∀ b ∈ cs, b ∈ D.bs) → runW D.N (w0 (D.lts ++ [⟨h, D.tn, gl⟩])) cs = runW D.N (w0 D.lts) cs ++ [⟨h, D.tn, none⟩] := fun cs hcs => by
    rw [ew]
    exact runW_ext fun b hb n hn => by rw [lw]; exact g.log.lt b (hcs b hb) n hn
  refine ⟨?_, fun t ht => ?_, fun i b hb => ?_, g.ord, g.turns, ?_, g.shut, fun r due m => ?_, g.fi⟩
  · show (D.lts ++ [_]).length = (D.sps ++ [_]).length
    rw [List.length_append, List.length_append, g.len]
    rfl
  · rcases List.mem_append.mp ht with ht | ht
    · exact g.lets t ht
    · rw [List.mem_singleton.mp ht]
      exact ⟨ok, g.fi, Int.le_refl _, t30⟩
  · have f := g.log i b hb
    obtain ⟨l, hl, hrm, hn⟩ := f.line
    refine ⟨f.ne, f.up, l, hl, hrm, fun n hnn => ?_⟩
    obtain ⟨lt, w, h1, h2, h3⟩ := hn n hnn
    refine ⟨lt, w, ?_, ?_, h3⟩
    · show (D.lts ++ [_])[n]? = _
      rw [List.getElem?_append_left (lt_of_at h1)]
      exact h1
    · show (runW D.N (w0 (D.lts ++ [⟨h, D.tn, gl⟩])) (D.bs.take i))[n]? = _
      rw [er _ fun c hc => List.mem_of_mem_take hc, List.getElem?_append_left (lt_of_at h2)]
      exact h2
  · show RelAll D.tn D.N (D.lts ++ [⟨h, D.tn, gl⟩]) (runW D.N (w0 (D.lts ++ [⟨h, D.tn, gl⟩])) D.bs) (D.sps ++ [.ah h D.tn])
    rw [er _ fun c hc => hc]
    refine ⟨?_, ?_, fun n lt w sp h1 h2 h3 => ?_⟩
    · rw [List.length_append, List.length_append, g.rel.lw]
      rfl
    · rw [List.length_append, List.length_append, g.rel.ls]
      rfl
    · by_cases q : n < D.lts.length
      · rw [List.getElem?_append_left q] at h1
        rw [List.getElem?_append_left (by rw [g.rel.lw]; exact q)] at h2
        rw [List.getElem?_append_left (by rw [g.rel.ls]; exact q)] at h3
        exact g.rel.all n lt w sp h1 h2 h3
      · have e : n = D.lts.length := by
          have := lt_of_at h1
          rw [List.length_append] at this
          simp only [List.length_cons, List.length_nil] at this
          omega
        have e2 := g.rel.lw
        have e3 := g.rel.ls
        have a1 : (D.lts ++ [(⟨h, D.tn, gl⟩ : Lt)])[n]? = some ⟨h, D.tn, gl⟩ := by rw [e]; simp
        have a2 : (runW D.N (w0 D.lts) D.bs ++ [(⟨h, D.tn, none⟩ : Wc)])[n]? = some ⟨h, D.tn, none⟩ := by rw [e, ← e2]; simp
        have a3 : (D.sps ++ [Spt.ah h D.tn])[n]? = some (.ah h D.tn) := by rw [e, ← e3]; simp
        rw [a1] at h1
        rw [a2] at h2
        rw [a3] at h3
        cases h1
        cases h2
        cases h3
        exact rel_ah (lt := ⟨h, D.tn, gl⟩) ok.ne
  · rcases List.mem_append.mp m with m | m
    · exact g.spo r due m
    · cases List.mem_singleton.mp m
theorem SpOk.run {N : Nt} : ∀ {bs : List Bg} {S : List Spt}, (∀ b ∈ bs, ∃ l, N.lines[b.rd]? = some l) → SpOk N S → SpOk N (leftM N S bs)
  | [], _, _, h => h
  | b :: bs, _, h, s => by
    obtain ⟨l, hl⟩ := h b List.mem_cons_self
    exact SpOk.run (bs := bs) (fun c hc => h c (List.mem_cons_of_mem _ hc)) (SpOk.left1 hl s)
theorem SpOk.settle {N : Nt} {lts : List Lt} {S : List Spt} {t : Int} (h : SpOk N S) : SpOk N (settled N lts S t) := fun r due m => by
  unfold settled at m
  obtain ⟨x, hx, e⟩ := List.mem_map.mp m
  have hs : x.2 ∈ S := (List.of_mem_zip hx).2
  cases q : x.2 with
  | ny =>
    rw [q] at e
    have e : (if x.1.tn ≤ t then Spt.ah x.1.hs x.1.tn else .ny) = .rd r due := e
    split at e <;> cases e
  | ah a b => rw [q] at e; cases e
  | hm a => rw [q] at e; cases e
  | rd r' d' =>
    rw [q] at e hs
    obtain ⟨l, hl⟩ := h r' d' hs
    have e : (if d' ≤ t then (match N.lines[r']? with
        | some l => if l.to = x.1.gl then Spt.hm d' else .ah l.to d'
        | none => .rd r' d') else .rd r' d') = .rd r due := e
    rw [hl] at e
    split at e
    · have e : (if l.to = x.1.gl then Spt.hm d' else .ah l.to d') = .rd r due := e
      split at e <;> cases e
    · cases e
      exact ⟨l, hl⟩
theorem dueS_ah {lt : Lt} {w : Wc} {t s : Int} {h : Str} (e : dueS lt w t = .ah h s) : w.h = h ∧ w.s = s ∧ w.s ≤ t ∧ w.h ≠ lt.gl := by
  unfold dueS at e
  by_cases q : t < w.s
  · rw [if_pos q] at e
    cases z : w.by_ <;> rw [z] at e <;> cases e
  · rw [if_neg q] at e
    by_cases z : w.h = lt.gl
    · rw [if_pos z] at e; cases e
    · rw [if_neg z] at e
      cases e
      exact ⟨rfl, rfl, by omega, z⟩
theorem Good.pass {first : Int} {D : Dy} {kst kst' : List (List Key × V)} {tf : Str → Str → Option Nat} {cs : List Bg} (g : Good first D kst) (tok : TfOk D.N tf) (sent : ∀ b ∈ cs, Sent D tf b) (inc : cs.Pairwise (fun a b => a.rd < b.rd))
    (hk : ∀ kv ∈ kst', kv ∈ kst ∨ ∃ r : Int, kv.1 = [Sum.inl D.tn, Sum.inl r] ∧ ∃ x ∈ D.kc, x.1 = Sum.inl r) :
    Good first { D with tn := D.tn + 1, sps := leftM D.N (settled D.N D.lts D.sps D.tn) cs, bs := D.bs ++ cs } kst' := by
  have lines : ∀ b ∈ cs, ∃ l, D.N.lines[b.rd]? = some l := fun b hb => let ⟨l, hl, _⟩ := (sent b hb).at_; ⟨l, hl⟩
  have r1 := g.rel.settle (Int.le_refl _)
  obtain ⟨W, hW⟩ : ∃ W, W = runW D.N (w0 D.lts) D.bs := ⟨_, rfl⟩
  rw [← hW] at r1
  have one : ∀ b ∈ cs, ∀ n ∈ b.ns, ∃ l lt w, D.N.lines[b.rd]? = some l ∧ D.lts[n]? = some lt ∧ W[n]? = some w ∧ w.h = l.fr ∧ w.s ≤ D.tn ∧ w.h ≠ lt.gl ∧ tf w.h lt.gl = some b.rd := fun b hb n hn => by
    obtain ⟨s, h, t, h1, h2, h3⟩ := (sent b hb).wants n hn
    obtain ⟨w, hw⟩ := at_of_lt (show n < W.length by rw [r1.lw]; exact lt_of_at h2)
    have e := (r1.all n t w _ h2 hw h1).eq D.tn (Int.le_refl _)
    obtain ⟨e1, e2, e3, e4⟩ := dueS_ah e.symm
    obtain ⟨l, hl, hf⟩ := tok h t.gl b.rd h3
    exact ⟨l, t, w, hl, h2, hw, e1.trans hf.symm, e3, e4, by rw [e1]; exact h3⟩
  refine ⟨?_, fun t ht => ?_, fun i b hb => ?_, ?_, fun b hb => ?_, ?_, fun kv hkv => ?_, SpOk.run lines g.spo.settle, ?_⟩
  · show D.lts.length = (leftM D.N (settled D.N D.lts D.sps D.tn) cs).length
    rw [leftM_len, settled_len g.len]
  · obtain ⟨h1, h2, h3, h4⟩ := g.lets t ht
    refine ⟨h1, h2, ?_, h4⟩
    show t.tn ≤ D.tn + 1
    omega
  · show BagFits D.N D.lts (runW D.N (w0 D.lts) ((D.bs ++ cs).take i)) b
    have hb : (D.bs ++ cs)[i]? = some b := hb
    by_cases q : i < D.bs.length
    · rw [List.getElem?_append_left q] at hb
      rw [List.take_append_of_le_length (Nat.le_of_lt q)]
      exact g.log i b hb
    · rw [List.getElem?_append_right (by omega)] at hb
      have mb := List.mem_of_getElem? hb
      rw [List.take_append, List.take_of_length_le (by omega), runW_app, ← hW]
      generalize hj : i - D.bs.length = j at hb
      have sb := sent b mb
      obtain ⟨l, hl, hrm⟩ := sb.at_
      refine ⟨sb.ne, sb.up, l, hl, hrm, fun n hn => ?_⟩
      obtain ⟨l', lt, w, a1, a2, a3, a4, a5, a6, a7⟩ := one b mb n hn
      rw [hl] at a1
      cases a1
      refine ⟨lt, w, a2, ?_, a4, by rw [sb.tn]; exact a5, a6⟩
      rw [runW_out fun c hc hnc => ?_]
      · exact a3
      · obtain ⟨k, hk1⟩ := List.mem_iff_getElem?.mp hc
        have lk := lt_of_at hk1
        rw [List.length_take] at lk
        rw [List.getElem?_take_of_lt (by omega)] at hk1
        have mc := List.mem_of_getElem? hk1
        obtain ⟨_, lt', w', _, b2, b3, _, _, _, b7⟩ := one c mc n hnc
        rw [a2] at b2
        rw [a3] at b3
        cases b2
        cases b3
        rw [a7] at b7
        have := List.pairwise_iff_getElem.mp inc k j (lt_of_at hk1) (lt_of_at hb) (by omega)
        rw [(List.getElem?_eq_some_iff.mp hk1).2, (List.getElem?_eq_some_iff.mp hb).2] at this
        have := Option.some.inj b7
        omega
  · refine List.pairwise_append.mpr ⟨g.ord, inc.imp_of_mem fun {a b} ha hb hab => .inr ⟨by rw [(sent a ha).tn, (sent b hb).tn], hab⟩, fun a ha b hb => .inl ?_⟩
    rw [(sent b hb).tn]
    exact (g.turns a ha).2
  · show first ≤ b.tn ∧ b.tn < D.tn + 1
    rcases List.mem_append.mp hb with hb | hb
    · have := g.turns b hb
      omega
    · rw [(sent b hb).tn]
      have := g.fi
      omega
  · show RelAll (D.tn + 1) D.N D.lts (runW D.N (w0 D.lts) (D.bs ++ cs)) (leftM D.N (settled D.N D.lts D.sps D.tn) cs)
    rw [runW_app, ← hW]
    exact (RelAll.run lines r1).up (by omega)
  · show ∃ t r : Int, kv.1 = [Sum.inl t, Sum.inl r] ∧ t < D.tn + 1 ∧ ∀ b ∈ D.bs ++ cs, ¬ (b.tn = t ∧ (b.rd : Int) = r)
    rcases hk kv hkv with h | ⟨r, e, x, hx, ex⟩
    · obtain ⟨t, r, e, h1, h2⟩ := g.shut kv h
      refine ⟨t, r, e, by omega, fun b hb => ?_⟩
      rcases List.mem_append.mp hb with hb | hb
      · exact h2 b hb
      · rw [(sent b hb).tn]
        intro z
        omega
    · refine ⟨D.tn, r, e, by omega, fun b hb => ?_⟩
      rcases List.mem_append.mp hb with hb | hb
      · have := g.turns b hb
        intro z
        omega
      · intro z
        exact (sent b hb).op x hx (by rw [ex, z.2])
  · show first ≤ D.tn + 1
    have := g.fi
    omega
theorem last_ord {bs : List Bg} {i : Nat} {b : Bg} (o : bs.Pairwise Bef) (hb : bs[i]? = some b) : ∀ x, lastOf (bs.take i) = some x → x.1 < b.tn ∨ (x.1 = b.tn ∧ x.2 < b.rd) := fun x hx => by
  cases i with
  | zero =>
    rw [List.take_zero] at hx
    cases hx
  | succ i =>
    obtain ⟨a, ha⟩ := at_of_lt (show i < bs.length by have := lt_of_at hb; omega)
    rw [take_snoc ha, lastOf_snoc] at hx
    cases hx
    have := List.pairwise_iff_getElem.mp o i (i + 1) (lt_of_at ha) (lt_of_at hb) (by omega)
    rw [(List.getElem?_eq_some_iff.mp ha).2, (List.getElem?_eq_some_iff.mp hb).2] at this
    exact this
theorem Good.ny {first : Int} {D : Dy} {kst : List (List Key × V)} (g : Good first D kst) : ∀ t ∈ D.lts, t.hs ≠ t.gl := fun t ht => (g.lets t ht).1.ne
theorem Good.plan {first : Int} {D : Dy} {kst : List (List Key × V)} (g : Good first D kst) (few : D.lts.length ≤ 1000) : PlanOk D.N D.lts D.bs D.tn := by
  refine ⟨fun i b hb => ?_, fun b hb => by have := g.turns b hb; omega⟩
  exact (g.log i b hb).good few (RelAll.run (fun c hc => g.log.line c (List.mem_of_mem_take hc)) (relAll_ny g.ny)) (last_ord g.ord hb)
theorem Good.planS {first : Int} {D : Dy} {kst : List (List Key × V)} (g : Good first D kst) : SpOk D.N (leftM D.N (List.replicate D.lts.length .ny) D.bs) := SpOk.run g.log.line SpOk.rep
/-- where the letters are -/
def dues (lts : List Lt) (W : List Wc) (t : Int) : List Spt := (lts.zip W).map fun x => dueS x.1 x.2 t
theorem dues_at {lts : List Lt} {W : List Wc} {t : Int} {n : Nat} {lt : Lt} {w : Wc} (h1 : lts[n]? = some lt) (h2 : W[n]? = some w) : (dues lts W t)[n]? = some (dueS lt w t) := by
  unfold dues
  have e : (lts.zip W)[n]? = some (lt, w) := List.getElem?_zip_eq_some.mpr ⟨h1, h2⟩
  rw [List.getElem?_map, e]
  rfl
theorem RelAll.dues {lo t : Int} {N : Nt} {lts : List Lt} {W : List Wc} {S : List Spt} (r : RelAll lo N lts W S) (h : lo ≤ t) : settled N lts S t = dues lts W t := by
  refine List.ext_getElem? fun n => ?_
  cases e : lts[n]? with
  | none =>
    have ln := List.getElem?_eq_none_iff.mp e
    rw [List.getElem?_eq_none (by rw [settled_len r.ls.symm]; exact ln), List.getElem?_eq_none]
    unfold PR.dues
    rw [List.length_map, List.length_zip]
    omega
  | some lt =>
    have ln := lt_of_at e
    obtain ⟨w, hw⟩ := at_of_lt (show n < W.length by rw [r.lw]; exact ln)
    obtain ⟨s, hs⟩ := at_of_lt (show n < S.length by rw [r.ls]; exact ln)
    rw [settled_at e hs, dues_at e hw, (r.all n lt w s e hw hs).eq t h]
theorem Good.spots {first : Int} {D : Dy} {kst : List (List Key × V)} (g : Good first D kst) : settled D.N D.lts (leftM D.N (List.replicate D.lts.length .ny) D.bs) D.tn = dues D.lts (runW D.N (w0 D.lts) D.bs) D.tn :=
  (RelAll.run g.log.line (relAll_ny (lo := D.tn) g.ny)).dues (Int.le_refl _)
theorem Good.spot {first : Int} {D : Dy} {kst : List (List Key × V)} (g : Good first D kst) {n : Nat} {lt : Lt} {w : Wc} {sp : Spt} (h1 : D.lts[n]? = some lt) (h2 : (runW D.N (w0 D.lts) D.bs)[n]? = some w) (h3 : D.sps[n]? = some sp) : laterM D.N lt sp D.tn = dueS lt w D.tn :=
  (g.rel.all n lt w sp h1 h2 h3).eq D.tn (Int.le_refl _)
/-- rows that came by no road are not ahead -/
theorem sets_mem {α : Type} {x : α} : ∀ {ns : List Nat} {xs : List α} {y : α}, y ∈ sets x xs ns → y ∈ xs ∨ y = x
  | [], _, _, h => .inl h
  | n :: ns, xs, y, h => by
    rcases sets_mem (ns := ns) h with h | h
    · exact List.mem_or_eq_of_mem_set h
    · exact .inr h
theorem run_none {N : Nt} : ∀ {bs : List Bg} {W : List Wc} {w : Wc}, w ∈ runW N W bs → w.by_ = none → w ∈ W
  | [], _, _, h, _ => h
  | b :: bs, W, w, h, q => by
    have h := run_none (bs := bs) h q
    rcases sets_mem h with h | h
    · exact h
    · rw [h] at q
      cases q
theorem Good.past {first : Int} {D : Dy} {kst : List (List Key × V)} (g : Good first D kst) : ∀ w ∈ runW D.N (w0 D.lts) D.bs, w.by_ = none → w.s ≤ D.tn := fun w hw q => by
  have := run_none hw q
  unfold w0 at this
  obtain ⟨t, ht, rfl⟩ := List.mem_map.mp this
  exact (g.lets t ht).2.2.1
end PR
set_option Elab.async false
set_option maxRecDepth 100000
set_option linter.all false
set_option maxHeartbeats 1000000
/-! The law's cells, houses and roads. -/
namespace PR
open PySem PySem.Spec PyProof.Rows L2
def cellAt (xs : List Int) (k : Nat) : Int := (xs[k]?).getD 0
/-- a name by its signs -/
def nmS (l : List Nat) : Str := ⟨l.toArray⟩
theorem nmS_app (l : List Nat) (c : Nat) : (nmS l) ++ (⟨#[c]⟩ : Str) = nmS (l ++ [c]) := by
  unfold nmS
  show (⟨l.toArray ++ #[c]⟩ : Str) = _
  simp
def chr (cell : Int) (at_ k j : Nat) : Nat := 97 + ((cell / 64 + 5 * (j : Int) * (j : Int) + 2 * (k : Int) * (if j = at_ then 1 else 0)) % 26).toNat
theorem chr_ok (cell : Int) (at_ k j : Nat) : 97 ≤ chr cell at_ k j ∧ chr cell at_ k j ≤ 122 := by
  unfold chr
  have := Int.emod_lt_of_pos (cell / 64 + 5 * (j : Int) * (j : Int) + 2 * (k : Int) * (if j = at_ then 1 else 0)) (show (0 : Int) < 26 by decide)
  have := Int.emod_nonneg (cell / 64 + 5 * (j : Int) * (j : Int) + 2 * (k : Int) * (if j = at_ then 1 else 0)) (show (26 : Int) ≠ 0 by decide)
  omega
def nameC (cell : Int) (at_ size k : Nat) : Str := nmS ((List.range size).map (chr cell at_ k))
theorem nameC_ok {cell : Int} {at_ size k : Nat} (h : 1 ≤ size ∧ size ≤ 8) : NameOk (nameC cell at_ size k) := by
  unfold nameC nmS
  refine ⟨?_, ?_, fun ch hc => ?_⟩
  · show 1 ≤ (List.toArray _).size
    simp
    exact h.1
  · show (List.toArray _).size ≤ 8
    simp
    exact h.2
  · have : ch ∈ (List.range size).map (chr cell at_ k) := by simpa using hc
    obtain ⟨j, _, rfl⟩ := List.mem_map.mp this
    exact chr_ok _ _ _ _
theorem nameC_inj {cell : Int} {at_ size k k' : Nat} (h : at_ < size) (hk : k < 6) (hk' : k' < 6) (e : nameC cell at_ size k = nameC cell at_ size k') : k = k' := by
  unfold nameC nmS at e
  have e1 : (List.range size).map (chr cell at_ k) = (List.range size).map (chr cell at_ k') := by
    have := congrArg (fun s : Str => s.cps.toList) e
    simpa using this
  have e2 := congrArg (fun l => l[at_]?) e1
  simp only [List.getElem?_map, List.getElem?_range h, Option.map_some] at e2
  have e3 := Option.some.inj e2
  unfold chr at e3
  rw [if_pos rfl] at e3
  generalize cell / 64 + 5 * (at_ : Int) * (at_ : Int) = x at e3
  omega
section
variable {K : PySem.W.Frag} {σ : L2.St} {H : Hp} {ta tb : TE}
theorem v_ixS {z : Str} {i : Int} {ch : Nat} (ha : Val ta σ H (.str z)) (hb : Val tb σ H (.int i)) (hz : z.length ≤ sizeLine) (h : atI z.cps.toList i = some ch) : Val (tOp rIxS ta tb) σ H (.str ⟨#[ch]⟩) := val_op ha hb fun _ q => ⟨z, i, ch, rfl, rfl, hz, h, q⟩
theorem v_addS {a b : Str} (ha : Val ta σ H (.str a)) (hb : Val tb σ H (.str b)) (h : a.length + b.length ≤ sizeLine) : Val (tOp (fun x y H Q => ∃ i j, x = .str i ∧ y = .str j ∧ i.length + j.length ≤ sizeLine ∧ Q (.str (i ++ j)) H) ta tb) σ H (.str (a ++ b)) := val_op ha hb fun _ q => ⟨a, b, rfl, rfl, h, q⟩
theorem v_intB {b : Bool} (ha : Val ta σ H (.bl b)) : Val (tCB (fun xs H Q => (∃ i, xs = [.int i] ∧ Q (.int i) H) ∨ ∃ k, xs = [.bl k] ∧ Q (.int (if k then 1 else 0)) H) (tCons ta tNil)) σ H (.int (if b then 1 else 0)) := val_cb1 ha fun _ q => .inr ⟨b, rfl, q⟩
end
theorem letter_at {i : Int} (h0 : 0 ≤ i) (h1 : i < 26) : atI (("abcdefghijklmnopqrstuvwxyz" : Str).cps.toList) i = some (97 + i.toNat) := by
  have e : ("abcdefghijklmnopqrstuvwxyz" : Str).cps.toList = (List.range 26).map (· + 97) := by decide +kernel
  rw [e]
  obtain ⟨n, rfl⟩ : ∃ n : Nat, i = n := ⟨i.toNat, by omega⟩
  refine atI_nat ?_
  rw [List.getElem?_map, List.getElem?_range (by omega)]
  show some (n + 97) = some (97 + (n : Int).toNat)
  congr 1
  omega
theorem mul8 (j : Nat) (h : j < 8) : -(2 ^ 64) < (j : Int) ∧ (j : Int) < 2 ^ 64 := by constructor <;> omega
section
variable {P : Program} {w : World} {K : PySem.W.Frag} {mg : Str → Option Value} {base : Heap} {c : Cs}
def spCell (K : PySem.W.Frag) : Sp := fun vs H Q _ => ∃ (p : Addr) (xs : List Int) (k : Nat), vs = [.ref p, nat k] ∧ SqL K H p (xs.map V.int) ∧ Q (.int (cellAt xs k)) H
theorem ok__law_cell_at (T : Txt K mg c) : C8.Cal P w K mg base 1 "_law_cell_at" (spCell K) [] := by
  refine cal_of T.d__law_cell_at sc__law_cell_at (fun _ _ _ _ _ _ us hl => match us, hl with | [_, _], _ => rfl) (fun vs H Q E h => ?_) (fun f cdv A outer s H vs Q E hr h => ?_)
  · obtain ⟨p, xs, k', rfl, _⟩ := h
    rfl
  · obtain ⟨p, xs, k', rfl, hp, k⟩ := h
    have hu := hu_of hr
    refine ⟨_, (pss_cons (ps_if (pt_cmpR op_lt (pv 1) (pe_callB call_len_seq (by rfl) T.b_len PySem.boot_len (pa_cons (pv 0) pa_nil)) (nomark _)) (pss_one (ps_ret (pe_ix ix_list (pv 0) (pv 1) (fun _ _ => rfl)))) pss_nil)
  (pss_one (ps_ret pe_int))), ?_⟩
    have test : Ans (tTest (tOp (rI0 fun i j => .bl (decide (i < j))) (tVar 1) (tCB (fun xs H Q => ∃ p ys, xs = [.ref p] ∧ (SqL K H p ys ∨ SqT K H p ys) ∧ Q (.int ys.length) H) (tCons (tVar 0) tNil)))) [some (.ref p), some (nat k')] H (decide ((k' : Int) < ((xs.map V.int).length : Int))) := ans_test (v_lt (val_var rfl) (v_lenL hp (val_var rfl)))
    by_cases h : k' < xs.length
    · refine sq_seq (st_yes (Ans.to test (decide_eq_true (by rw [List.length_map]; omega))) ?_)
      have e : cellAt xs k' = xs[k'] := by unfold cellAt; rw [List.getElem?_eq_getElem h] <;> rfl
      refine st_ret (v := .int (cellAt xs k')) (v_ixL (i := (k' : Int)) hp (val_var rfl) (val_var rfl) (atI_nat ?_)) k
      rw [e]
      exact map_at _ (List.getElem?_eq_getElem h)
    · refine sq_no (Ans.to test (decide_eq_false (by rw [List.length_map]; omega))) ?_
      have e : cellAt xs k' = 0 := by unfold cellAt; rw [List.getElem?_eq_none (by omega)] <;> rfl
      rw [e] at k
      exact st_ret val_c k
def spLHouses : Sp := fun vs H Q _ => ∃ (cell : Int) (many : Nat), vs = [.int cell, nat many] ∧ many ≤ 6 ∧ ∀ (H' : Hp) (l : Addr) (zs : List Str), Same H H' → H l = none → H' l = some (.lst (zs.map V.str)) → zs.length = many → (∀ z ∈ zs, NameOk z) → zs.Nodup → Q (.ref l) H'
theorem ok__law_houses (T : Txt K mg c) : C8.Cal P w K mg base 1 "_law_houses" (spLHouses) [] := by
  refine cal_of T.d__law_houses sc__law_houses (fun _ _ _ _ _ _ us hl => match us, hl with | [_, _], _ => rfl) (fun vs H Q E h => ?_) (fun f cdv A outer s H vs Q E hr h => ?_)
  · obtain ⟨cell, many, rfl, _⟩ := h
    rfl
  · obtain ⟨cell, many, rfl, m6, k⟩ := h
    have hu := hu_of hr
    refine ⟨_, (pss_cons (ps_set (i := 2) sc__law_houses.nd rfl (Or.inl rfl) pe_str)
  (pss_cons (ps_set (i := 3) sc__law_houses.nd rfl (Or.inl rfl) (pe_op op_add pe_int (pe_op op_mod (pv 0) pe_int)))
  (pss_cons (ps_set (i := 4) sc__law_houses.nd rfl (Or.inl rfl) (pe_op op_mod (pe_op op_fdiv (pv 0) pe_int) (pv 3)))
  (pss_cons (ps_set (i := 5) sc__law_houses.nd rfl (Or.inl rfl) (pe_lst pa_nil))
  (pss_cons (ps_for PassesOwn.never rfl (pi_range1 rfl T.b_range (pa_cons (pv 1) pa_nil)) (pg_name (i := 6) sc__law_houses.nd rfl (Or.inl rfl)) (pss_cons (ps_set (i := 7) sc__law_houses.nd rfl (Or.inl rfl) pe_str)
  (pss_cons (ps_for PassesOwn.never rfl (pi_range1 rfl T.b_range (pa_cons (pv 3) pa_nil)) (pg_name (i := 8) sc__law_houses.nd rfl (Or.inl rfl)) (pss_cons (ps_set (i := 9) sc__law_houses.nd rfl (Or.inl rfl) (pe_op op_add (pe_op op_add (pe_op op_fdiv (pv 0) pe_int) (pe_op op_mul (pe_op op_mul pe_int (pv 8)) (pv 8))) (pe_op op_mul (pe_op op_mul pe_int (pv 6)) (pe_callTy call_int1 (by rfl) T.b_int (by decide +kernel) (pa_cons (pe_cmpR op_eq (pv 8) (pv 4) (nomark _)) pa_nil)))))
  (pss_one (ps_set (i := 7) sc__law_houses.nd rfl (Or.inl rfl) (pe_op op_add_str (pv 7) (pe_ix ix_str (pv 2) (pe_op op_mod (pv 9) pe_int) (fun _ _ => rfl)))))))
  (pss_one (ps_expr (pe_bm PySem.F.plainAttrs_list PySem.F.slot_list_append PySem.F.type_list_append mt_append (pv 5) (pa_cons (pv 7) pa_nil)))))))
  (pss_one (ps_ret (pv 5)))))))), ?_⟩
    obtain ⟨size, hsize⟩ : ∃ size : Nat, 1 + cell % 8 = (size : Int) := ⟨(1 + cell % 8).toNat, by omega⟩
    obtain ⟨at_, hat⟩ : ∃ at_ : Nat, cell / 8 % (size : Int) = (at_ : Int) := ⟨(cell / 8 % (size : Int)).toNat, by
      have := Int.emod_nonneg (cell / 8) (show (size : Int) ≠ 0 by omega)
      omega⟩
    have s8 : 1 ≤ size ∧ size ≤ 8 := by omega
    have hatl : at_ < size := by
      have := Int.emod_lt_of_pos (cell / 8) (show (0 : Int) < (size : Int) by omega)
      omega
    refine sq_seq (st_set val_c ?_)
    refine sq_set (Val.to (v_add val_c (v_mod (val_var rfl) val_c (by decide))) (congrArg V.int hsize)) ?_
    refine sq_set (Val.to (v_mod (v_fdiv (i := cell) (val_var rfl) val_c ⟨by decide, by decide⟩) (val_var rfl) (by omega)) (congrArg V.int hat)) ?_
    refine ⟨by show 0 ≤ sizeLine; decide, fun l hl => ?_⟩
    refine ⟨_, rfl, (many : Int), rfl, by omega, by omega, ?_⟩
    refine for_range (fun i σ H' => ∃ (o6 o7 o8 o9 : Option V), σ = [some (.int cell), some (nat many), some (.str "abcdefghijklmnopqrstuvwxyz"), some (nat size), some (nat at_), some (.ref l), o6, o7, o8, o9] ∧ Same H H' ∧ H' l = some (.lst (((List.range i).map (nameC cell at_ size)).map V.str)))
      ⟨_, _, _, _, rfl, Same.new hl, upd_same⟩ ?_ ?_
    · rintro i σ H1 hi ⟨o6, o7, o8, o9, rfl, s, d⟩
      have hi : i < many := by omega
      rw [Int.zero_add]
      refine sq_seq (st_set val_c ?_)
      refine ⟨_, rfl, (size : Int), rfl, by omega, by omega, ?_⟩
      refine for_range (fun j σ H' => ∃ (o8 o9 : Option V), σ = [some (.int cell), some (nat many), some (.str "abcdefghijklmnopqrstuvwxyz"), some (nat size), some (nat at_), some (.ref l), some (nat i), some (.str (nmS ((List.range j).map (chr cell at_ i)))), o8, o9] ∧ H' = H1)
        ⟨_, _, (by
          have e0 : ("" : Str) = nmS [] := by decide +kernel
          rw [e0]
          rfl), rfl⟩ ?_ ?_
      · rintro j σ H2 hj ⟨o8, o9, rfl, rfl⟩
        have hj : j < size := by omega
        rw [Int.zero_add]
        show tSeq _ _ _ _ _
        have ej : (if decide (V.int (j : Int) = nat at_) = true then (1 : Int) else 0) = (if j = at_ then 1 else 0) := by
          by_cases q : j = at_
          · rw [if_pos q, q, decide_eq_true (show V.int (at_ : Int) = nat at_ from rfl)]
            rfl
          · have hne : ¬ V.int (j : Int) = nat at_ := fun e => q (Int.ofNat.inj (V.int.inj e))
            rw [if_neg q, decide_eq_false hne]
            rfl
        have eb : -(2 ^ 64) < (if decide (V.int (j : Int) = nat at_) = true then (1 : Int) else 0) ∧ (if decide (V.int (j : Int) = nat at_) = true then (1 : Int) else 0) < 2 ^ 64 := by
          rw [ej]
          by_cases q : j = at_ <;> simp [q]
        refine sq_set (Val.to (v_add (v_add (v_fdiv (i := cell) (val_var rfl) val_c ⟨by decide, by decide⟩) (v_mul (j := (j : Int)) (v_mul (j := (j : Int)) val_c (val_var rfl) (.inl (by decide))) (val_var rfl) (.inr (mul8 j (by omega))))) (v_mul (v_mul (j := (i : Int)) val_c (val_var rfl) (.inl (by decide))) (v_intB (v_eq (x := .int (j : Int)) (y := nat at_) (val_var rfl) (val_var rfl) rfl)) (.inr eb))) (congrArg (fun x => V.int (cell / 64 + 5 * (j : Int) * (j : Int) + 2 * (i : Int) * x)) ej)) ?_
        have g1 := Int.emod_lt_of_pos (cell / 64 + 5 * (j : Int) * (j : Int) + 2 * (i : Int) * (if j = at_ then 1 else 0)) (show (0 : Int) < 26 by decide)
        have g0 := Int.emod_nonneg (cell / 64 + 5 * (j : Int) * (j : Int) + 2 * (i : Int) * (if j = at_ then 1 else 0)) (show (26 : Int) ≠ 0 by decide)
        refine st_set (v := .str (nmS ((List.range j).map (chr cell at_ i)) ++ ⟨#[chr cell at_ i j]⟩)) (v_addS (val_var rfl) (v_ixS (val_var rfl) (v_mod (val_var rfl) val_c (by decide)) (by decide +kernel) (letter_at g0 g1)) ?_) ?_
        · refine sz_le ?_
          show (List.toArray _).size + 1 ≤ 100000
          simp
          omega
        · have en : nmS ((List.range j).map (chr cell at_ i)) ++ (⟨#[chr cell at_ i j]⟩ : Str) = nmS ((List.range (j + 1)).map (chr cell at_ i)) := by
            rw [nmS_app, List.range_succ, List.map_append]
            rfl
          rw [en]
          exact ⟨_, _, rfl, rfl⟩
      · rintro σ H2 ⟨o8, o9, rfl, rfl⟩
        refine ⟨_, rfl, .inl ⟨rfl, _, SqL.of d⟩, _, rfl, l, _, _, rfl, rfl, d, sz_lt (by rw [List.length_map, List.length_map, List.length_range]; omega), ?_⟩
        refine ⟨_, _, _, _, rfl, s.mut hl, ?_⟩
        rw [upd_same, List.range_succ, List.map_append, List.map_append]
        rfl
    · rintro σ H1 ⟨o6, o7, o8, o9, rfl, s, d⟩
      have em : (many : Int).toNat = many := by omega
      rw [em] at d
      refine st_ret (val_var rfl) (k H1 l _ s hl d (by rw [List.length_map, List.length_range]) (fun z hz => ?_) ?_)
      · obtain ⟨i, _, rfl⟩ := List.mem_map.mp hz
        exact nameC_ok s8
      · refine List.pairwise_map.mpr (List.pairwise_iff_getElem.mpr fun a b ha hb hab e => ?_)
        rw [List.length_range] at ha hb
        simp only [List.getElem_range] at e
        have := nameC_inj hatl (by omega) (by omega) e
        omega
def spLRoad : Sp := fun vs H Q _ => ∃ (cell : Int) (q : Addr) (zs : List Str), vs = [.int cell, .ref q] ∧ H q = some (.lst (zs.map V.str)) ∧ 2 ≤ zs.length ∧ zs.length ≤ 6 ∧ zs.Nodup ∧ ∀ H' a l, Same H H' → LnAt H' a l → LnOk zs l → Q (.ref a) H'
theorem ok__law_road (T : Txt K mg c) : C8.Cal P w K mg base 1 "_law_road" (spLRoad) [] := by
  refine cal_of T.d__law_road sc__law_road (fun _ _ _ _ _ _ us hl => match us, hl with | [_, _], _ => rfl) (fun vs H Q E h => ?_) (fun f cdv A outer s H vs Q E hr h => ?_)
  · obtain ⟨cell, q, zs, rfl, _⟩ := h
    rfl
  · obtain ⟨cell, q, zs, rfl, hq, z2, z6, nd, k⟩ := h
    have hu := hu_of hr
    refine ⟨_, (pss_cons (ps_set (i := 2) sc__law_road.nd rfl (Or.inl rfl) (pe_op op_mod (pe_op op_mul (pv 0) pe_int) pe_int))
  (pss_cons (ps_set (i := 3) sc__law_road.nd rfl (Or.inl rfl) (pe_callB call_len_seq (by rfl) T.b_len PySem.boot_len (pa_cons (pv 1) pa_nil)))
  (pss_cons (ps_set (i := 4) sc__law_road.nd rfl (Or.inl rfl) (pe_op op_mod (pv 2) (pv 3)))
  (pss_cons (ps_set (i := 5) sc__law_road.nd rfl (Or.inl rfl) (pe_op op_mod (pe_op op_add (pe_op op_add (pv 4) pe_int) (pe_op op_mod (pe_op op_fdiv (pv 2) (pv 3)) (pe_op op_sub (pv 3) pe_int))) (pv 3)))
  (pss_cons (ps_set (i := 6) sc__law_road.nd rfl (Or.inl rfl) (pe_op op_add pe_int (pe_op op_mod (pe_op op_fdiv (pv 2) pe_int) pe_int)))
  (pss_cons (ps_if (pt_cmpR op_eq (pe_op op_mod (pe_op op_fdiv (pv 2) pe_int) pe_int) pe_int (nomark _)) (pss_one (ps_set (i := 6) sc__law_road.nd rfl (Or.inl rfl) (pe_op op_add pe_int (pe_op op_mod (pe_op op_fdiv (pv 2) pe_int) (pe_op op_pow pe_int pe_int))))) pss_nil)
  (pss_one (ps_ret (pe_tup (pa_cons (pe_ix ix_list (pv 1) (pv 4) (fun _ _ => rfl)) (pa_cons (pe_ix ix_list (pv 1) (pv 5) (fun _ _ => rfl)) (pa_cons (pe_op op_add pe_int (pe_op op_mod (pe_op op_fdiv (pv 2) pe_int) pe_int)) (pa_cons (pv 6) pa_nil))))))))))))), ?_⟩
    obtain ⟨n, hn⟩ : ∃ n : Int, cell * 1099087573 % 10000000000037 = n := ⟨_, rfl⟩
    have n0 : 0 ≤ n := by rw [← hn]; exact Int.emod_nonneg _ (by decide)
    obtain ⟨m, hm⟩ : ∃ m : Int, m = (zs.length : Int) := ⟨_, rfl⟩
    have vlen : ∀ σ : L2.St, σ[1]? = some (some (.ref q)) → Val (tCB (fun xs H Q => ∃ p ys, xs = [.ref p] ∧ (SqL K H p ys ∨ SqT K H p ys) ∧ Q (.int ys.length) H) (tCons (tVar 1) tNil)) σ H (.int m) := fun σ e => by
      rw [hm, ← List.length_map (f := V.str)]
      exact v_lenL (SqL.of hq) (val_var e)
    refine sq_seq (st_set (Val.to (v_mod (v_mul (i := cell) (val_var rfl) val_c (.inr (by decide))) val_c (by decide)) (congrArg V.int hn)) ?_)
    refine sq_set (v := .int m) (vlen _ rfl) ?_
    obtain ⟨a, ha⟩ : ∃ a : Nat, n % m = (a : Int) := ⟨(n % m).toNat, by have := Int.emod_nonneg n (show m ≠ 0 by omega); omega⟩
    have al : a < zs.length := by have := Int.emod_lt_of_pos n (show 0 < m by omega); omega
    refine sq_set (Val.to (x := nat a) (v_mod (i := n) (j := m) (val_var rfl) (val_var rfl) (by omega)) (congrArg V.int ha)) ?_
    obtain ⟨b, hb⟩ : ∃ b : Nat, ((a : Int) + 1 + n / m % (m - 1)) % m = (b : Int) := ⟨(((a : Int) + 1 + n / m % (m - 1)) % m).toNat, by have := Int.emod_nonneg ((a : Int) + 1 + n / m % (m - 1)) (show m ≠ 0 by omega); omega⟩
    have bl : b < zs.length := by have := Int.emod_lt_of_pos ((a : Int) + 1 + n / m % (m - 1)) (show 0 < m by omega); omega
    have ab : a ≠ b := fun e => by
      rw [← e] at hb
      have h1 := Int.emod_lt_of_pos (n / m) (show 0 < m - 1 by omega)
      have h2 := Int.emod_nonneg (n / m) (show m - 1 ≠ 0 by omega)
      generalize n / m % (m - 1) = y at hb h1 h2
      by_cases q : (a : Int) + 1 + y < m
      · rw [Int.emod_eq_of_lt (by omega) q] at hb
        omega
      · have e2 : ((a : Int) + 1 + y) % m = (a : Int) + 1 + y - m := by
          rw [← Int.sub_emod_right, Int.emod_eq_of_lt (by omega) (by omega)]
        rw [e2] at hb
        omega
    refine sq_set (Val.to (x := nat b) (v_mod (j := m) (v_add (v_add (i := (a : Int)) (val_var rfl) val_c) (v_mod (v_fdiv (i := n) (j := m) (val_var rfl) (val_var rfl) ⟨by omega, by omega⟩) (v_sub (i := m) (val_var rfl) val_c) (by omega))) (val_var rfl) (by omega)) (congrArg V.int hb)) ?_
    refine sq_set (v := .int (1 + n / 9000 % 3)) (v_add val_c (v_mod (v_fdiv (val_var rfl) val_c ⟨by decide, by decide⟩) val_c (by decide))) ?_
    obtain ⟨za, hza⟩ := at_of_lt al
    obtain ⟨zb, hzb⟩ := at_of_lt bl
    have fin : ∀ (rm : Int), 1 ≤ rm → rm ≤ 1000000000 → tRet (tTup (tCons (tOp (rIxL K) (tVar 1) (tVar 4)) (tCons (tOp (rIxL K) (tVar 1) (tVar 5)) (tCons (tOp (rI0 fun i j => .int (i + j)) (tC (.int 1)) (tOp (rI (fun _ j => 0 < j) fun i j => .int (i % j)) (tOp (rI CDiv fun i j => .int (i / j)) (tVar 2) (tC (.int 1000))) (tC (.int 9)))) (tCons (tVar 6) tNil))))) { nx := fun _ H' => Q .non H', rt := Q } [some (.int cell), some (.ref q), some (.int n), some (.int m), some (nat a), some (nat b), some (.int rm)] H := fun rm r1 r2 => by
      refine tup_go (cons_go (.str za) (v_ixL (i := (a : Int)) (SqL.of hq) (val_var rfl) (val_var rfl) (atI_nat (map_at V.str hza))) (cons_go (.str zb) (v_ixL (i := (b : Int)) (SqL.of hq) (val_var rfl) (val_var rfl) (atI_nat (map_at V.str hzb))) (cons_go (.int (1 + n / 1000 % 9)) (v_add val_c (v_mod (v_fdiv (val_var rfl) val_c ⟨by decide, by decide⟩) val_c (by decide))) (cons_go (.int rm) (val_var rfl) ?_))))
      refine ⟨by show 4 ≤ sizeLine; decide, fun p hp => k _ p ⟨za, zb, 1 + n / 1000 % 9, rm⟩ (Same.new hp) upd_same ⟨List.mem_of_getElem? hza, List.mem_of_getElem? hzb, fun e => ?_, ?_, ⟨r1, r2⟩⟩⟩
      · have h := List.pairwise_iff_getElem.mp nd
        have ea := (List.getElem?_eq_some_iff.mp hza).2
        have eb := (List.getElem?_eq_some_iff.mp hzb).2
        have e : za = zb := e
        rcases Nat.lt_or_gt_of_ne ab with q | q
        · exact h a b al bl q (by rw [ea, eb, e])
        · exact h b a bl al q (by rw [ea, eb, e])
      · show 1 ≤ 1 + n / 1000 % 9 ∧ 1 + n / 1000 % 9 ≤ 9
        omega
    refine sq_seq ?_
    refine st_if (ans_test (v_eq (v_mod (v_fdiv (val_var rfl) val_c ⟨by decide, by decide⟩) val_c (by decide)) val_c rfl)) (fun _ => ?_) (fun _ => ?_)
    · refine st_set (v := .int (1 + n / 135000 % 1000000000)) (v_add val_c (v_mod (v_fdiv (val_var rfl) val_c ⟨by decide, by decide⟩) (v_pow (i := 10) (j := 9) val_c val_c ⟨by decide, by decide, by decide⟩) (by decide))) ?_
      exact fin (1 + n / 135000 % 1000000000) (by omega) (by omega)
    · exact fin (1 + n / 9000 % 3) (by omega) (by omega)
end
end PR
set_option Elab.async false
set_option maxRecDepth 100000
set_option linter.all false
set_option maxHeartbeats 200000
/-! What the law tells of a spot and of a row; what it notes of a deed. -/
namespace PR
open PySem PySem.Spec PyProof.Rows L2
theorem asg_go {te : TE} {g : TG} {D : Ends} {σ : L2.St} {H : Hp} (h : te σ H fun v H1 => g v σ H1 fun σ2 H2 => D.nx σ2 H2) : tAsg te g D σ H := h
theorem sq_or {t u : TT} {t1 rest : TS} {D : Ends} {σ : L2.St} {H : Hp} (h : Ans t σ H false) (q : u σ H fun b H1 => if b = true then t1 { D with nx := rest D } σ H1 else rest D σ H1) : tSeq (tIfS (tOr t u) t1 tNext) rest D σ H :=
  h _ (iteF q)
def toldD : Spt → PyData
  | .ny => .list [.str "not yet"]
  | .ah h s => .list [.str "at", .str h, .int s]
  | .rd r u => .list [.str "on", .int (r : Int), .int u]
  | .hm s => .list [.str "home", .int s]
def toldV : Spt → List V
  | .ny => [.str "not yet"]
  | .ah h s => [.str "at", .str h, .int s]
  | .rd r u => [.str "on", nat r, .int u]
  | .hm s => [.str "home", .int s]
theorem told_dp {K : PySem.W.Frag} {H : Hp} {l : Addr} {sp : Spt} (h : H l = some (.lst (toldV sp))) : Dp K H (.ref l) (toldD sp) := by
  cases sp with
  | ny => exact .lst (SqL.of h) (.cons (.str _) .nil)
  | ah z s => exact .lst (SqL.of h) (.cons (.str _) (.cons (.str _) (.cons (.int _) .nil)))
  | rd r u => exact .lst (SqL.of h) (.cons (.str _) (.cons (.int _) (.cons (.int _) .nil)))
  | hm s => exact .lst (SqL.of h) (.cons (.str _) (.cons (.int _) .nil))
theorem strOk_name {z : Str} (h : NameOk z) : PyData.strOk z = true := by
  unfold PyData.strOk
  rw [← Array.all_toList]
  exact List.all_eq_true.mpr fun ch hc => decide_eq_true (Nat.lt_of_le_of_lt (h.2.2 ch hc).2 (by decide))
def SptStr : Spt → Prop
  | .ah h _ => PyData.strOk h = true
  | _ => True
theorem lay_told {sp : Spt} (h : SptStr sp) : (toldD sp).canLay0 = true ∧ (toldD sp).depth ≤ 1 := by
  have i : ∀ i : Int, (PyData.int i).canLay0 = true ∧ (PyData.int i).depth ≤ 0 := fun i => ⟨by simp [PyData.canLay0], by simp [PyData.depth]⟩
  have s : ∀ z : Str, PyData.strOk z = true → (PyData.str z).canLay0 = true ∧ (PyData.str z).depth ≤ 0 := fun z h => ⟨by simp [PyData.canLay0, h], by simp [PyData.depth]⟩
  cases sp with
  | ny => exact lay_list (n := 0) fun d hd => (by
      rw [List.mem_singleton.mp hd]
      exact s _ (by decide +kernel))
  | ah z t => exact lay_list (n := 0) fun d hd => (by
      simp only [List.mem_cons, List.not_mem_nil, or_false] at hd
      rcases hd with rfl | rfl | rfl
      · exact s _ (by decide +kernel)
      · exact s _ h
      · exact i _)
  | rd z t => exact lay_list (n := 0) fun d hd => (by
      simp only [List.mem_cons, List.not_mem_nil, or_false] at hd
      rcases hd with rfl | rfl | rfl
      · exact s _ (by decide +kernel)
      · exact i _
      · exact i _)
  | hm t => exact lay_list (n := 0) fun d hd => (by
      simp only [List.mem_cons, List.not_mem_nil, or_false] at hd
      rcases hd with rfl | rfl
      · exact s _ (by decide +kernel)
      · exact i _)
def byV : Option Nat → V
  | some r => nat r
  | none => .non
def WcAt (H : Hp) (a : Addr) (w : Wc) : Prop := H a = some (.tup [.str w.h, .int w.s, byV w.by_])
theorem WcAt.mono {H H' : Hp} {a : Addr} {w : Wc} (s : Same H H') (h : WcAt H a w) : WcAt H' a w := s _ _ h
section
variable {P : Program} {w : World} {K : PySem.W.Frag} {mg : Str → Option Value} {base : Heap} {c : Cs}
theorem val_isiS {σ : L2.St} {H : Hp} {ta : TE} {q : Addr} {sp : Spt} (T : Txt K mg c) (S : SptAt c H q sp) (ha : Val ta σ H (.ref q)) : Val (tCB (rIsi K) (tCons ta (tCons (tC (.ref c.spot)) tNil))) σ H (.bl true) :=
  val_cb2 ha val_c fun _ q => isi_spS T S q
def spTold (c : Cs) : Sp := fun vs H Q _ => ∃ (a : Addr) (sp : Spt), vs = [.ref a] ∧ SptAt c H a sp ∧ ∀ H' l, Same H H' → H l = none → H' l = some (.lst (toldV sp)) → Q (.ref l) H'
theorem ok__law_told (T : Txt K mg c) : C8.Cal P w K mg base 1 "_law_told" (spTold c) [] := by
  refine cal_of T.d__law_told sc__law_told (fun _ _ _ _ _ _ us hl => match us, hl with | [_], _ => rfl) (fun vs H Q E h => ?_) (fun f cdv A outer s H vs Q E hr h => ?_)
  · obtain ⟨a, sp, rfl, _⟩ := h
    rfl
  · obtain ⟨a, sp, rfl, ha, k⟩ := h
    have hu := hu_of hr
    refine ⟨_, (pss_cons (ps_set (i := 1) sc__law_told.nd rfl (Or.inl rfl) (pe_lst (pa_cons (pe_callB call_isi (by rfl) T.b_isinstance (by decide +kernel) (pa_cons (pv 0) (pa_cons (C8.pe_gc rfl T.c_NotYet) pa_nil))) (pa_cons (pe_callB call_isi (by rfl) T.b_isinstance (by decide +kernel) (pa_cons (pv 0) (pa_cons (C8.pe_gc rfl T.c_AtHouse) pa_nil))) (pa_cons (pe_callB call_isi (by rfl) T.b_isinstance (by decide +kernel) (pa_cons (pv 0) (pa_cons (C8.pe_gc rfl T.c_OnRoad) pa_nil))) (pa_cons (pe_callB call_isi (by rfl) T.b_isinstance (by decide +kernel) (pa_cons (pv 0) (pa_cons (C8.pe_gc rfl T.c_AtHome) pa_nil))) pa_nil))))))
  (pss_cons (ps_if (PW.pt (pw_or (pt_not (pt_val (pe_callB call_isi (by rfl) T.b_isinstance (by decide +kernel) (pa_cons (pv 0) (pa_cons (C8.pe_gc rfl T.c_Spot) pa_nil))))) (pw_or1 (pt_cmpR op_ne (pe_callB (cr_sum rfl) (by rfl) T.b_sum (by decide +kernel) (pa_cons (pe_lc (own := [("_law_kind", 2)]) rfl sc__law_told.nd (pi_list (pv 1)) (blkOk_by (own := [("_law_kind", 2)]) (N := N__law_told) (sc := defScope s__law_told) (by decide +kernel)) (fun _ _ _ _ _ => by exact (pg_name (i := 2) sc__law_told.nd rfl (Or.inl rfl))) (fun _ _ _ _ _ => by exact pts_nil) (fun _ _ _ _ _ => by exact (pe_callTy call_int1 (by rfl) T.b_int (by decide +kernel) (pa_cons (pv 2) pa_nil)))) pa_nil)) pe_int (nomark _))))) (pss_one (ps_ret pe_non)) pss_nil)
  (pss_cons (ps_if (pt_val (pe_ix ix_list (pv 1) pe_int (fun _ _ => rfl))) (pss_one (ps_ret (pe_lst (pa_cons pe_str pa_nil)))) pss_nil)
  (pss_cons (ps_if (pt_val (pe_ix ix_list (pv 1) pe_int (fun _ _ => rfl))) (pss_one (ps_ret (pe_lst (pa_cons pe_str (pa_cons (pe_fld (pv 0) rfl) (pa_cons (pe_fld (pv 0) rfl) pa_nil)))))) pss_nil)
  (pss_cons (ps_if (pt_val (pe_ix ix_list (pv 1) pe_int (fun _ _ => rfl))) (pss_one (ps_ret (pe_lst (pa_cons pe_str (pa_cons (pe_fld (pv 0) rfl) (pa_cons (pe_fld (pv 0) rfl) pa_nil)))))) pss_nil)
  (pss_one (ps_ret (pe_lst (pa_cons pe_str (pa_cons (pe_fld (pv 0) rfl) pa_nil)))))))))), ?_⟩
    obtain ⟨ks, hks⟩ : ∃ ks : List Bool, ks = [decide (sp.kd = .ny), decide (sp.kd = .ah), decide (sp.kd = .rd), decide (sp.kd = .hm)] := ⟨_, rfl⟩
    have vki : ∀ kd : Kd, Val (tCB (rIsi K) (tCons (tVar 0) (tCons (tC (.ref (c.k kd))) tNil))) [some (.ref a), none, none] H (.bl (decide (sp.kd = kd))) := fun kd => val_isiK T kd ha (val_var rfl)
    have v0 : Val (tCB (rIsi K) (tCons (tVar 0) (tCons (tC (.ref c.notYet)) tNil))) [some (.ref a), none, none] H (.bl (decide (sp.kd = .ny))) := vki .ny
    have v1 : Val (tCB (rIsi K) (tCons (tVar 0) (tCons (tC (.ref c.atHouse)) tNil))) [some (.ref a), none, none] H (.bl (decide (sp.kd = .ah))) := vki .ah
    have v2 : Val (tCB (rIsi K) (tCons (tVar 0) (tCons (tC (.ref c.onRoad)) tNil))) [some (.ref a), none, none] H (.bl (decide (sp.kd = .rd))) := vki .rd
    have v3 : Val (tCB (rIsi K) (tCons (tVar 0) (tCons (tC (.ref c.atHome)) tNil))) [some (.ref a), none, none] H (.bl (decide (sp.kd = .hm))) := vki .hm
    refine sq_seq (asg_go (lst_go (cons_go _ v0 (cons_go _ v1 (cons_go _ v2 (cons_go _ v3 ?_))))))
    refine ⟨by show 4 ≤ sizeLine; decide, fun l hl => ?_⟩
    have s1 : Same H (upd H l (.lst [.bl (decide (sp.kd = .ny)), .bl (decide (sp.kd = .ah)), .bl (decide (sp.kd = .rd)), .bl (decide (sp.kd = .hm))])) := Same.new hl
    have l1 : (upd H l (.lst [.bl (decide (sp.kd = .ny)), .bl (decide (sp.kd = .ah)), .bl (decide (sp.kd = .rd)), .bl (decide (sp.kd = .hm))])) l = some (.lst (ks.map V.bl)) := by rw [upd_same, hks] <;> rfl
    generalize upd H l (.lst [.bl (decide (sp.kd = .ny)), .bl (decide (sp.kd = .ah)), .bl (decide (sp.kd = .rd)), .bl (decide (sp.kd = .hm))]) = H1 at s1 l1 ⊢
    have ha1 := ha.mono s1
    refine sq_or (Ans.to (ans_not (ans_val (val_isiS T ha1 (val_var rfl)))) rfl) ?_
    have kl : ks.length = 4 := by rw [hks] <;> rfl
    refine ⟨_, rfl, l, rfl, ⟨_, SqL.of l1⟩, fun D hD => lc_list (xs := ks.map V.bl) (fun i H' => Same H1 H' ∧ H' D = some (.lst (((ks.take i).map fun b => if b then (1 : Int) else 0).map V.int))) ⟨Same.new hD, upd_same⟩ (fun _ _ _ h => SqL.of (h.1 _ _ l1)) ?_ ?_⟩
    · rintro i x H2 hi ⟨s, d⟩
      obtain ⟨b, hb, rfl⟩ := map_of hi
      refine ⟨rfl, ?_⟩
      refine ⟨_, rfl, .inr ⟨b, rfl, _, d, sz_lt (by rw [List.length_map, List.length_map, List.length_take]; omega), s.mut hD, ?_⟩⟩
      rw [upd_same, take_snoc hb, List.map_append, List.map_append]
      rfl
    · rintro H2 ⟨s, d⟩
      rw [List.length_map, List.take_length] at d
      have hsum : (ks.map fun b => if b then (1 : Int) else 0).sum = 1 := by rw [hks]; cases sp <;> rfl
      refine ⟨D, _, rfl, SqL.of d, rfl, _, rfl, ?_⟩
      rw [hsum]
      refine iteF ?_
      have l2 := s _ _ l1
      have ha2 := ha1.mono s
      have s2 := s1.trans s
      obtain ⟨dx, hx⟩ := id ha2
      have vk : ∀ (j : Nat) (b : Bool) (σ : L2.St), σ[1]? = some (some (.ref l)) → ks[j]? = some b → Val (tOp (rIxL K) (tVar 1) (tC (.int (j : Int)))) σ H2 (.bl b) := fun j b σ e hb => v_ixL (i := (j : Int)) (SqL.of l2) (val_var e) val_c (atI_nat (map_at _ hb))
      have fin : ∀ (xs : List V), xs = toldV sp → ∀ p, H2 p = none → Q (.ref p) (upd H2 p (.lst xs)) := fun xs e p hp => k _ p (s2.trans (Same.new hp)) (s2.free hp) (by rw [upd_same, e])
      cases sp with
      | ny =>
        refine sq_seq (st_yes (ans_val (vk 0 true _ rfl (by rw [hks] <;> rfl))) ?_)
        exact ⟨by show 1 ≤ sizeLine; decide, fin _ rfl⟩
      | ah h s' =>
        refine sq_no (ans_val (vk 0 false _ rfl (by rw [hks] <;> rfl))) ?_
        refine sq_seq (st_yes (ans_val (vk 1 true _ rfl (by rw [hks] <;> rfl))) ?_)
        refine lst_go (cons_go _ val_c (cons_go (.str h) (val_fld (val_var rfl) hx T.cl_AtHouse T.n_AtHouse_at lk_AtHouse_at) (cons_go (.int s') (val_fld (val_var rfl) hx T.cl_AtHouse T.n_AtHouse_since lk_AtHouse_since) ?_)))
        exact ⟨by show 3 ≤ sizeLine; decide, fin _ rfl⟩
      | rd r u =>
        refine sq_no (ans_val (vk 0 false _ rfl (by rw [hks] <;> rfl))) ?_
        refine sq_no (ans_val (vk 1 false _ rfl (by rw [hks] <;> rfl))) ?_
        refine sq_seq (st_yes (ans_val (vk 2 true _ rfl (by rw [hks] <;> rfl))) ?_)
        refine lst_go (cons_go _ val_c (cons_go (nat r) (val_fld (val_var rfl) hx T.cl_OnRoad T.n_OnRoad_by lk_OnRoad_by) (cons_go (.int u) (val_fld (val_var rfl) hx T.cl_OnRoad T.n_OnRoad_due lk_OnRoad_due) ?_)))
        exact ⟨by show 3 ≤ sizeLine; decide, fin _ rfl⟩
      | hm s' =>
        refine sq_no (ans_val (vk 0 false _ rfl (by rw [hks] <;> rfl))) ?_
        refine sq_no (ans_val (vk 1 false _ rfl (by rw [hks] <;> rfl))) ?_
        refine sq_no (ans_val (vk 2 false _ rfl (by rw [hks] <;> rfl))) ?_
        refine lst_go (cons_go _ val_c (cons_go (.int s') (val_fld (val_var rfl) hx T.cl_AtHome T.n_AtHome_since lk_AtHome_since) ?_))
        exact ⟨by show 2 ≤ sizeLine; decide, fin _ rfl⟩
def spDue : Sp := fun vs H Q _ => ∃ (a b : Addr) (lt : Lt) (r : Wc) (t : Int), vs = [.ref a, .ref b, .int t] ∧ LtAt H a lt ∧ WcAt H b r ∧ (r.by_ = none → r.s ≤ t) ∧ ∀ H' l, Same H H' → H l = none → H' l = some (.lst (toldV (dueS lt r t))) → Q (.ref l) H'
theorem ok__law_due (T : Txt K mg c) : C8.Cal P w K mg base 1 "_law_due" (spDue) [] := by
  refine cal_of T.d__law_due sc__law_due (fun _ _ _ _ _ _ us hl => match us, hl with | [_, _, _], _ => rfl) (fun vs H Q E h => ?_) (fun f cdv A outer s H vs Q E hr h => ?_)
  · obtain ⟨a, b, lt, r, t, rfl, _⟩ := h
    rfl
  · obtain ⟨a, b, lt, r, t, rfl, ha, hb, hby, k⟩ := h
    have hu := hu_of hr
    refine ⟨_, (pss_cons (ps_if (pt_cmpR op_gt (pe_ix ix_tup (pv 1) pe_int (fun _ _ => rfl)) (pv 2) (nomark _)) (pss_one (ps_ret (pe_lst (pa_cons pe_str (pa_cons (pe_ix ix_tup (pv 1) pe_int (fun _ _ => rfl)) (pa_cons (pe_ix ix_tup (pv 1) pe_int (fun _ _ => rfl)) pa_nil)))))) pss_nil)
  (pss_cons (ps_if (pt_cmpR op_eq (pe_ix ix_tup (pv 1) pe_int (fun _ _ => rfl)) (pe_ix ix_tup (pv 0) pe_int (fun _ _ => rfl)) (nomark _)) (pss_one (ps_ret (pe_lst (pa_cons pe_str (pa_cons (pe_ix ix_tup (pv 1) pe_int (fun _ _ => rfl)) pa_nil))))) pss_nil)
  (pss_one (ps_ret (pe_lst (pa_cons pe_str (pa_cons (pe_ix ix_tup (pv 1) pe_int (fun _ _ => rfl)) (pa_cons (pe_ix ix_tup (pv 1) pe_int (fun _ _ => rfl)) pa_nil)))))))), ?_⟩
    have fin : ∀ (xs : List V), xs = toldV (dueS lt r t) → ∀ p, H p = none → Q (.ref p) (upd H p (.lst xs)) := fun xs e p hp => k _ p (Same.new hp) hp (by rw [upd_same, e])
    have b0 : ∀ σ : L2.St, σ[1]? = some (some (.ref b)) → Val (tOp (rIxT K) (tVar 1) (tC (.int 0))) σ H (.str r.h) := fun σ e => v_ixTn (j := 0) (SqT.of hb) (val_var e) rfl
    have b1 : ∀ σ : L2.St, σ[1]? = some (some (.ref b)) → Val (tOp (rIxT K) (tVar 1) (tC (.int 1))) σ H (.int r.s) := fun σ e => v_ixTn (j := 1) (SqT.of hb) (val_var e) rfl
    have b2 : ∀ σ : L2.St, σ[1]? = some (some (.ref b)) → Val (tOp (rIxT K) (tVar 1) (tC (.int 2))) σ H (byV r.by_) := fun σ e => v_ixTn (j := 2) (SqT.of hb) (val_var e) rfl
    by_cases h : t < r.s
    · refine sq_seq (st_yes (Ans.to (ans_test (v_gt (j := t) (b1 _ rfl) (val_var rfl))) (decide_eq_true h)) ?_)
      refine lst_go (cons_go _ val_c (cons_go _ (b2 _ rfl) (cons_go _ (b1 _ rfl) ?_)))
      refine ⟨by show 3 ≤ sizeLine; decide, ?_⟩
      cases hr2 : r.by_ with
      | none => exact absurd (hby hr2) (by omega)
      | some q =>
        refine fin _ ?_
        unfold dueS
        rw [if_pos h, hr2]
        rfl
    · refine sq_no (Ans.to (ans_test (v_gt (j := t) (b1 _ rfl) (val_var rfl))) (decide_eq_false h)) ?_
      have a2 : ∀ σ : L2.St, σ[0]? = some (some (.ref a)) → Val (tOp (rIxT K) (tVar 0) (tC (.int 2))) σ H (.str lt.gl) := fun σ e => v_ixTn (j := 2) (SqT.of ha) (val_var e) rfl
      by_cases q : r.h = lt.gl
      · refine sq_seq (st_yes (Ans.to (ans_test (v_eq (b0 _ rfl) (a2 _ rfl) rfl)) (decide_eq_true (congrArg V.str q))) ?_)
        refine lst_go (cons_go _ val_c (cons_go _ (b1 _ rfl) ?_))
        refine ⟨by show 2 ≤ sizeLine; decide, fin _ ?_⟩
        unfold dueS
        rw [if_neg h, if_pos q]
        rfl
      · refine sq_no (Ans.to (ans_test (v_eq (b0 _ rfl) (a2 _ rfl) rfl)) (decide_eq_false fun e => q (V.str.inj e))) ?_
        refine lst_go (cons_go _ val_c (cons_go _ (b0 _ rfl) (cons_go _ (b1 _ rfl) ?_)))
        refine ⟨by show 3 ≤ sizeLine; decide, fin _ ?_⟩
        unfold dueS
        rw [if_neg h, if_neg q]
        rfl
/-- what was done to the day -/
inductive Deed where
  | shut (r : Nat) | reopen (r : Nat) | way
def DeedAt (H : Hp) (q : Addr) : Deed → Prop
  | .shut r => ∃ rest, H q = some (.lst (.str "shut" :: nat r :: rest))
  | .reopen r => ∃ rest, H q = some (.lst (.str "reopen" :: nat r :: rest))
  | .way => ∃ rest, H q = some (.lst (.str "way" :: rest))
def noteK (kc : List (Key × V)) : Deed → List (Key × V)
  | .shut r => putK kc (Sum.inl (r : Int)) (.bl true)
  | .reopen r => dropK kc (Sum.inl (r : Int))
  | .way => kc
def spNoted : Sp := fun vs H Q _ => ∃ (q lc : Addr) (dd : Deed) (kc : List (Key × V)), vs = [.ref q, .ref lc] ∧ DeedAt H q dd ∧ H lc = some (.dK kc) ∧ kc.length ≤ 10000 ∧ ∀ H', (∀ b o, H b = some o → b ≠ lc → H' b = some o) → H' lc = some (.dK (noteK kc dd)) → Q .non H'
theorem ok__law_noted (T : Txt K mg c) : C8.Cal P w K mg base 1 "_law_noted" (spNoted) [] := by
  refine cal_of T.d__law_noted sc__law_noted (fun _ _ _ _ _ _ us hl => match us, hl with | [_, _], _ => rfl) (fun vs H Q E h => ?_) (fun f cdv A outer s H vs Q E hr h => ?_)
  · obtain ⟨q, lc, dd, kc, rfl, _⟩ := h
    rfl
  · obtain ⟨q, lc, dd, kc, rfl, hq, hc, few, k⟩ := h
    have hu := hu_of hr
    refine ⟨_, (pss_cons (ps_if (pt_cmpR op_eq (pe_ix ix_list (pv 0) pe_int (fun _ _ => rfl)) pe_str (nomark _)) (pss_one (ps_dput hu (pv 1) (pe_ix ix_list (pv 0) pe_int (fun _ _ => rfl)) pe_bl rfl)) pss_nil)
  (pss_one (ps_if (pt_cmpR op_eq (pe_ix ix_list (pv 0) pe_int (fun _ _ => rfl)) pe_str (nomark _)) (pss_one (ps_expr (pe_dpop2 (pv 1) (pe_ix ix_list (pv 0) pe_int (fun _ _ => rfl)) pe_non ⟨rfl, rfl, rfl, rfl⟩))) pss_nil))), ?_⟩
    have kk : ∀ (u : List (Key × V)) b o, H b = some o → b ≠ lc → (upd H lc (.dK u)) b = some o := fun u b o e n => by rw [upd_ne n]; exact e
    have n1 : ¬ V.str "reopen" = V.str "shut" := fun e => absurd (V.str.inj e) (by decide +kernel)
    have n2 : ¬ V.str "way" = V.str "shut" := fun e => absurd (V.str.inj e) (by decide +kernel)
    have n3 : ¬ V.str "way" = V.str "reopen" := fun e => absurd (V.str.inj e) (by decide +kernel)
    have n4 : ¬ V.str "shut" = V.str "reopen" := fun e => absurd (V.str.inj e) (by decide +kernel)
    cases dd with
    | shut r =>
      obtain ⟨rest, e⟩ := hq
      refine sq_seq (st_yes (Ans.to (ans_test (v_eq (v_ixL (i := ((0 : Nat) : Int)) (SqL.of e) (val_var rfl) val_c (atI_nat (j := 0) rfl)) val_c rfl)) (decide_eq_true rfl)) ?_)
      refine ⟨_, rfl, ?_⟩
      refine vrun (nat r) (v_ixL (i := ((1 : Nat) : Int)) (SqL.of e) (val_var rfl) val_c (atI_nat (j := 1) rfl)) ?_
      refine ⟨lc, _, rfl, DPut.k (k := Sum.inl (r : Int)) hc (sz_lt (by omega)), ?_⟩
      have e1 := kk (putK kc (Sum.inl (r : Int)) (.bl true)) _ _ e (ne_of e hc (by intro z; cases z))
      exact st_no (Ans.to (ans_test (v_eq (v_ixL (i := ((0 : Nat) : Int)) (SqL.of e1) (val_var rfl) val_c (atI_nat (j := 0) rfl)) val_c rfl)) (decide_eq_false n4)) (k _ (kk _) upd_same)
    | reopen r =>
      obtain ⟨rest, e⟩ := hq
      refine sq_no (Ans.to (ans_test (v_eq (v_ixL (i := ((0 : Nat) : Int)) (SqL.of e) (val_var rfl) val_c (atI_nat (j := 0) rfl)) val_c rfl)) (decide_eq_false n1)) ?_
      refine st_yes (Ans.to (ans_test (v_eq (v_ixL (i := ((0 : Nat) : Int)) (SqL.of e) (val_var rfl) val_c (atI_nat (j := 0) rfl)) val_c rfl)) (decide_eq_true rfl)) ?_
      refine ⟨_, rfl, lc, rfl, .inl ⟨_, .inl hc⟩, ?_⟩
      refine vrun (nat r) (v_ixL (i := ((1 : Nat) : Int)) (SqL.of e) (val_var rfl) val_c (atI_nat (j := 1) rfl)) ?_
      refine ⟨kc, Sum.inl (r : Int), hc, rfl, fun v hv => k _ (kk _) upd_same, fun hv => ?_⟩
      have k := k H (fun b o e _ => e)
      have z : noteK kc (.reopen r) = kc := dropK_none hv
      rw [z] at k
      exact k hc
    | way =>
      obtain ⟨rest, e⟩ := hq
      refine sq_no (Ans.to (ans_test (v_eq (v_ixL (i := ((0 : Nat) : Int)) (SqL.of e) (val_var rfl) val_c (atI_nat (j := 0) rfl)) val_c rfl)) (decide_eq_false n2)) ?_
      exact st_no (Ans.to (ans_test (v_eq (v_ixL (i := ((0 : Nat) : Int)) (SqL.of e) (val_var rfl) val_c (atI_nat (j := 0) rfl)) val_c rfl)) (decide_eq_false n3)) (k H (fun b o e _ => e) hc)
end
end PR
set_option Elab.async false
set_option maxRecDepth 100000
set_option linter.all false
set_option maxHeartbeats 400000
/-! The law's walk of the log. -/
namespace PR
open PySem PySem.Spec PyProof.Rows L2
theorem or_go {t u : TT} {σ : L2.St} {H : Hp} {Q : Bool → Hp → Prop} (h : Ans t σ H false) (q : u σ H Q) : tOr t u σ H Q := h _ (iteF q)
theorem top_go {r : R2} {ta tb : TE} {σ : L2.St} {H : Hp} {Q : Bool → Hp → Prop} (h : ta σ H fun x H1 => tb σ H1 fun y H2 => r x y H2 fun v H3 => ∃ b, v = .bl b ∧ Q b H3) : tTest (tOp r ta tb) σ H Q := h
theorem inc_ext : ∀ {a b : List Int}, a.Pairwise (· < ·) → b.Pairwise (· < ·) → (∀ z, z ∈ a ↔ z ∈ b) → a = b
  | [], [], _, _, _ => rfl
  | [], y :: b, _, _, h => absurd ((h y).mpr List.mem_cons_self) (by simp)
  | x :: a, [], _, _, h => absurd ((h x).mp List.mem_cons_self) (by simp)
  | x :: a, y :: b, h1, h2, h => by
    obtain ⟨p1, p2⟩ := List.pairwise_cons.mp h1
    obtain ⟨q1, q2⟩ := List.pairwise_cons.mp h2
    have e : x = y := by
      rcases List.mem_cons.mp ((h x).mp List.mem_cons_self) with e | m
      · exact e
      · rcases List.mem_cons.mp ((h y).mpr List.mem_cons_self) with e | m'
        · exact e.symm
        · have := p1 y m'
          have := q1 x m
          omega
    subst e
    rw [inc_ext p2 q2 fun z => ⟨fun m => ?_, fun m => ?_⟩]
    · rcases List.mem_cons.mp ((h z).mp (List.mem_cons_of_mem _ m)) with e | m'
      · have := p1 z m
        omega
      · exact m'
    · rcases List.mem_cons.mp ((h z).mpr (List.mem_cons_of_mem _ m)) with e | m'
      · have := q1 z m
        omega
      · exact m'
theorem Wc_mut {H : Hp} {p a : Addr} {u v : List V} {b : Wc} (hp : H p = some (.lst u)) (h : WcAt H a b) : WcAt (upd H p (.lst v)) a b := by
  show upd H p _ a = _
  rw [upd_ne (ne_of h hp (by intro z; cases z))]
  exact h
section
variable {P : Program} {w : World} {K : PySem.W.Frag} {mg : Str → Option Value} {base : Heap} {c : Cs}
def spFits : Sp := fun vs H Q _ => ∃ (pl pq ps a : Addr) (G : Hp) (N : Nt) (lts : List Lt) (W : List Wc) (b : Bg) (ws : List Addr), vs = [.ref pl, .ref pq, .ref ps, .ref a] ∧ Same G H ∧ G ps = none ∧ LOf (LnAt G) G pl N.lines ∧ LOf (LtAt G) G pq lts ∧ BgAt G a b ∧ H ps = some (.lst (ws.map V.ref)) ∧ Paired (WcAt H) ws W ∧
  lts.length ≤ 60 ∧ BagFits N lts W b ∧ ∀ (H' : Hp) (ws' : List Addr), (∀ b o, H b = some o → b ≠ ps → H' b = some o) → H' ps = some (.lst (ws'.map V.ref)) → Paired (WcAt H') ws' (sets (stepC N b) W b.ns) → Q (.bl true) H'
theorem ok__law_bag_fits (T : Txt K mg c) : C8.Cal P w K mg base 1 "_law_bag_fits" (spFits) [] := by
  refine cal_of T.d__law_bag_fits sc__law_bag_fits (fun _ _ _ _ _ _ us hl => match us, hl with | [_, _, _, _], _ => rfl) (fun vs H Q E h => ?_) (fun f cdv A outer s H vs Q E hr h => ?_)
  · obtain ⟨pl, pq, ps, a, G, N, lts, W, b, ws, rfl, _⟩ := h
    rfl
  · obtain ⟨pl, pq, ps, a, G, N, lts, W, b, ws, rfl, sG, gps, ⟨las, g1, g2⟩, ⟨tas, t1, t2⟩, ⟨q, b1, b2⟩, hps, pw, few, fits, k⟩ := h
    have hu := hu_of hr
    refine ⟨_, (pss_cons (ps_if (PW.pt (pw_or (pt_not (pt_val (pe_callB call_isi (by rfl) T.b_isinstance (by decide +kernel) (pa_cons (pv 3) (pa_cons (pe_bty (n := "tuple") rfl T.b_tuple (by decide +kernel)) pa_nil))))) (pw_or (pt_cmpR op_ne (pe_callB call_len_seq (by rfl) T.b_len PySem.boot_len (pa_cons (pv 3) pa_nil)) pe_int (nomark _)) (pw_or (pt_not (pt_val (pe_callB call_isi (by rfl) T.b_isinstance (by decide +kernel) (pa_cons (pe_ix ix_tup (pv 3) pe_int (fun _ _ => rfl)) (pa_cons (pe_bty (n := "tuple") rfl T.b_tuple (by decide +kernel)) pa_nil))))) (pw_or1 (pt_cmpR (op_eqD hr.units) (pe_ix ix_tup (pv 3) pe_int (fun _ _ => rfl)) (pe_tup pa_nil) (nomark _))))))) (pss_one (ps_ret pe_bl)) pss_nil)
  (pss_cons (ps_asg (pv 3) (pg_tup rfl (pgs_cons (pg_name (i := 4) sc__law_bag_fits.nd rfl (Or.inl rfl)) (pgs_cons (pg_name (i := 5) sc__law_bag_fits.nd rfl (Or.inl rfl)) (pgs_cons (pg_name (i := 6) sc__law_bag_fits.nd rfl (Or.inl rfl)) pgs_nil)))))
  (pss_cons (ps_if (PW.pt (pw_or (pt_not (pt_chain op_le op_lt pe_int (pv 5) (pe_callB call_len_seq (by rfl) T.b_len PySem.boot_len (pa_cons (pv 0) pa_nil)))) (pw_or (pt_cmpR op_gt (pe_callB call_len_seq (by rfl) T.b_len PySem.boot_len (pa_cons (pv 6) pa_nil)) (pe_ix ix_tup (pe_ix ix_list (pv 0) (pv 5) (fun _ _ => rfl)) pe_int (fun _ _ => rfl)) (nomark _)) (pw_or1 (pt_cmpR (op_neD hr.units) (pe_callTy call_list_of (by rfl) T.b_list (by decide +kernel) (pa_cons (pv 6) pa_nil)) (pe_callB (cr_sortedSet rfl) (by rfl) T.b_sorted (by decide +kernel) (pa_cons (pe_callTy (cr_setTI rfl) (by rfl) T.b_set (by decide +kernel) (pa_cons (pv 6) pa_nil)) pa_nil)) (nomark _)))))) (pss_one (ps_ret pe_bl)) pss_nil)
  (pss_cons (ps_for PassesOwn.never rfl (pi_tup (pv 6)) (pg_name (i := 7) sc__law_bag_fits.nd rfl (Or.inl rfl)) (pss_cons (ps_if (PW.pt (pw_or (pt_not (pt_chain op_le op_lt pe_int (pv 7) (pe_callB call_len_seq (by rfl) T.b_len PySem.boot_len (pa_cons (pv 1) pa_nil)))) (pw_or (pt_cmpR op_ne (pe_ix ix_tup (pe_ix ix_list (pv 2) (pv 7) (fun _ _ => rfl)) pe_int (fun _ _ => rfl)) (pe_ix ix_tup (pe_ix ix_list (pv 0) (pv 5) (fun _ _ => rfl)) pe_int (fun _ _ => rfl)) (nomark _)) (pw_or1 (pt_cmpR op_gt (pe_ix ix_tup (pe_ix ix_list (pv 2) (pv 7) (fun _ _ => rfl)) pe_int (fun _ _ => rfl)) (pv 4) (nomark _)))))) (pss_one (ps_ret pe_bl)) pss_nil)
  (pss_cons (ps_if (pt_cmpR op_eq (pe_ix ix_tup (pe_ix ix_list (pv 2) (pv 7) (fun _ _ => rfl)) pe_int (fun _ _ => rfl)) (pe_ix ix_tup (pe_ix ix_list (pv 1) (pv 7) (fun _ _ => rfl)) pe_int (fun _ _ => rfl)) (nomark _)) (pss_one (ps_ret pe_bl)) pss_nil)
  (pss_one (ps_asg (pe_tup (pa_cons (pe_ix ix_tup (pe_ix ix_list (pv 0) (pv 5) (fun _ _ => rfl)) pe_int (fun _ _ => rfl)) (pa_cons (pe_op op_add (pv 4) (pe_ix ix_tup (pe_ix ix_list (pv 0) (pv 5) (fun _ _ => rfl)) pe_int (fun _ _ => rfl))) (pa_cons (pv 5) pa_nil)))) (pg_sub (pv 2) (pv 7) set_list))))))
  (pss_one (ps_ret pe_bl)))))), ?_⟩
    obtain ⟨l, hl, hrm, hat⟩ := fits.line
    have nlen : b.ns.length ≤ 60 := Nat.le_trans (inc_few fits.up fits.lt) few
    have tlen := t2.length
    obtain ⟨la, hla, pla⟩ := Paired.at_r g2 hl
    have lla := lt_of_at hla
    have hT : SqT K H a [.int b.tn, nat b.rd, .ref q] := SqT.of (sG _ _ b1)
    have hq := sG _ _ b2
    have i2 : ∀ σ : L2.St, σ[3]? = some (some (.ref a)) → Val (tOp (rIxT K) (tVar 3) (tC (.int 2))) σ H (.ref q) := fun σ e => v_ixTn (j := 2) hT (val_var e) rfl
    refine sq_or (Ans.to (ans_not (ans_val (val_isiT (a := true) (val_var rfl) (.base (.tup (sG _ _ b1))) (by decide +kernel)))) rfl) (or_go (Ans.to (ans_test (v_ne (v_lenT hT (val_var rfl)) val_c rfl)) rfl) (or_go (Ans.to (ans_not (ans_val (val_isiT (a := true) (i2 _ rfl) (.base (.tup hq)) (by decide +kernel)))) rfl) ?_))
    refine i2 _ rfl _ ?_
    refine ⟨by show 0 ≤ sizeLine; decide, fun l0 hl0 => ?_⟩
    have s1 : Same H (upd H l0 (.tup [])) := Same.new hl0
    have e1 : (upd H l0 (.tup [])) l0 = some (.tup []) := upd_same
    generalize upd H l0 (.tup []) = H1 at s1 e1 ⊢
    have dq : Dp K H1 (.ref q) (.tuple ((b.ns.map fun n : Nat => (n : Int)).map PyData.int)) := .tup (SqT.of (s1 _ _ hq)) (by rw [nat_int]; exact dp_ints _)
    refine ⟨_, .tuple [], dq, .tup (SqT.of e1) .nil, shaped_of (lay_tints _) (by decide), shaped_of (lay_tints []) (by decide), ?_⟩
    have e : PyData.eqv (.tuple ((b.ns.map fun n : Nat => (n : Int)).map PyData.int)) (.tuple []) = false := by
      cases hb : b.ns with
      | nil => exact absurd hb fits.ne
      | cons x r => rfl
    rw [e]
    refine ⟨false, rfl, iteF ?_⟩
    refine ⟨_, rfl, a, _, rfl, SqT.of (s1 _ _ (sG _ _ b1)), rfl, _, _, rfl, _, _, rfl, _, _, rfl, rfl, ?_⟩
    have s01 := sG.trans s1
    have h1l := s01 _ _ g1
    have h1q : SqT K H1 q (b.ns.map nat) := SqT.of (s01 _ _ b2)
    have vl1 : ∀ σ : L2.St, σ[0]? = some (some (.ref pl)) → σ[5]? = some (some (nat b.rd)) → Val (tOp (rIxL K) (tVar 0) (tVar 5)) σ H1 (.ref la) := fun σ e1 e2 => v_ixL (i := (b.rd : Int)) (SqL.of h1l) (val_var e1) (val_var e2) (atI_nat (refs_at hla))
    refine sq_or (σ := [some (.ref pl), some (.ref pq), some (.ref ps), some (.ref a), some (.int b.tn), some (nat b.rd), some (.ref q), none]) (Ans.to (ans_not (ans_test (v_lelt (i := 0) (j := (b.rd : Int)) val_c (val_var rfl) (v_lenL (SqL.of h1l) (val_var rfl))))) (by
      rw [List.length_map, decide_eq_true (show (0 : Int) ≤ (b.rd : Int) by omega), decide_eq_true (show (b.rd : Int) < (las.length : Int) by omega)]
      rfl)) (or_go (Ans.to (ans_test (v_gt (v_lenT h1q (val_var rfl)) (v_ixTn (j := 3) (SqT.of (s01 _ _ pla)) (vl1 _ rfl rfl) rfl))) (by
        rw [List.length_map]
        exact decide_eq_false (show ¬ l.rm < (b.ns.length : Int) by omega))) ?_)
    -- list(numbers) != sorted(set(numbers))
    refine ⟨_, rfl, q, _, rfl, .inr h1q, fun x1 hx1 => ?_⟩
    have s2 : Same H1 (upd H1 x1 (.lst (b.ns.map nat))) := Same.new hx1
    have x2 : (upd H1 x1 (.lst (b.ns.map nat))) x1 = some (.lst (b.ns.map nat)) := upd_same
    generalize upd H1 x1 (.lst (b.ns.map nat)) = H2 at s2 x2 ⊢
    refine ⟨_, rfl, q, b.ns.map (fun n : Nat => (n : Int)), rfl, (by rw [← nat_int]; exact s2.seqT h1q), (by rw [List.length_map]; omega), fun y1 m hy1 hm => ?_⟩
    rw [List.length_map] at hm
    dsimp only [cxOf, Cx.nox]
    have s3 : Same H2 (upd H2 y1 (SetO w y1 (fun j => decide (j ∈ b.ns.map fun n : Nat => (n : Int))) m)) := Same.new hy1
    have y2 : (upd H2 y1 (SetO w y1 (fun j => decide (j ∈ b.ns.map fun n : Nat => (n : Int))) m)) y1 = some (SetO w y1 (fun j => decide (j ∈ b.ns.map fun n : Nat => (n : Int))) m) := upd_same
    generalize upd H2 y1 (SetO w y1 (fun j => decide (j ∈ b.ns.map fun n : Nat => (n : Int))) m) = H3 at s3 y2 ⊢
    refine ⟨y1, _, m, rfl, y2, by omega, fun ns' z1 hpw hmem hlen hz1 => ?_⟩
    have en : ns' = b.ns.map fun n : Nat => (n : Int) := inc_ext hpw (List.pairwise_map.mpr (fits.up.imp fun h => by omega)) fun z => by rw [hmem z, decide_eq_true_eq]
    have s4 : Same H3 (upd H3 z1 (.lst (ns'.map V.int))) := Same.new hz1
    have z2 : (upd H3 z1 (.lst (ns'.map V.int))) z1 = some (.lst (ns'.map V.int)) := upd_same
    generalize upd H3 z1 (.lst (ns'.map V.int)) = H4 at s4 z2 ⊢
    have d1 : Dp K H4 (.ref x1) (.list (ns'.map PyData.int)) := .lst (SqL.of (s4 _ _ (s3 _ _ x2))) (by rw [nat_int, ← en]; exact dp_ints _)
    refine ⟨_, _, d1, .lst (SqL.of z2) (dp_ints _), shaped_of (lay_ints _) (by decide), shaped_of (lay_ints _) (by decide), ?_⟩
    rw [SeqAt.eqv_refl _ (lay_ints ns').1]
    refine ⟨false, rfl, iteF ?_⟩
    have sH4 : Same H H4 := s1.trans (s2.trans (s3.trans s4))
    have sG4 : Same G H4 := sG.trans sH4
    -- for n in numbers
    refine ⟨_, rfl, q, rfl, ⟨_, SqT.of (sG4 _ _ b2)⟩, ?_⟩
    refine for_tup (K := K) (xs := b.ns.map nat) (fun i σ H' => ∃ (ws' : List Addr) (o7 : Option V), σ = [some (.ref pl), some (.ref pq), some (.ref ps), some (.ref a), some (.int b.tn), some (nat b.rd), some (.ref q), o7] ∧ (∀ b o, H b = some o → b ≠ ps → H' b = some o) ∧ Same G H' ∧ H' ps = some (.lst (ws'.map V.ref)) ∧ Paired (WcAt H') ws' (sets (stepC N b) W (b.ns.take i)))
      ⟨ws, _, rfl, (fun x o e _ => sH4 _ _ e), sG4, sH4 _ _ hps, L2.Paired.mapP pw fun _ _ => WcAt.mono sH4⟩ (fun i σ H' _ ⟨_, _, _, _, s, _⟩ => SqT.of (s _ _ b2)) ?_ ?_
    · rintro i x σ H5 hi ⟨ws', o7, rfl, kk, s5, h5, p5⟩
      obtain ⟨n, hn, rfl⟩ := map_of hi
      obtain ⟨lt, r, a1, a2, a3, a4, a5⟩ := hat n (List.mem_of_getElem? hn)
      have a2' : (sets (stepC N b) W (b.ns.take i))[n]? = some r := by
        rw [sets_out fun hm => ?_]
        · exact a2
        · exact nodup_take (fits.up.imp fun h => Nat.ne_of_lt h) hn hm
      obtain ⟨wa, hwa, pwa⟩ := Paired.at_r p5 a2'
      obtain ⟨ta, hta, pta⟩ := Paired.at_r t2 a1
      have ln := lt_of_at hta
      have lw := lt_of_at hwa
      have vs : ∀ σ : L2.St, σ[2]? = some (some (.ref ps)) → σ[7]? = some (some (nat n)) → Val (tOp (rIxL K) (tVar 2) (tVar 7)) σ H5 (.ref wa) := fun σ e1 e2 => v_ixL (i := (n : Int)) (SqL.of h5) (val_var e1) (val_var e2) (atI_nat (refs_at hwa))
      have vq : ∀ σ : L2.St, σ[1]? = some (some (.ref pq)) → σ[7]? = some (some (nat n)) → Val (tOp (rIxL K) (tVar 1) (tVar 7)) σ H5 (.ref ta) := fun σ e1 e2 => v_ixL (i := (n : Int)) (SqL.of (s5 _ _ t1)) (val_var e1) (val_var e2) (atI_nat (refs_at hta))
      have vl : ∀ σ : L2.St, σ[0]? = some (some (.ref pl)) → σ[5]? = some (some (nat b.rd)) → Val (tOp (rIxL K) (tVar 0) (tVar 5)) σ H5 (.ref la) := fun σ e1 e2 => v_ixL (i := (b.rd : Int)) (SqL.of (s5 _ _ g1)) (val_var e1) (val_var e2) (atI_nat (refs_at hla))
      have pla5 : SqT K H5 la (lnV l) := SqT.of (s5 _ _ pla)
      have pwa5 : SqT K H5 wa _ := SqT.of pwa
      refine sq_no (σ := [some (.ref pl), some (.ref pq), some (.ref ps), some (.ref a), some (.int b.tn), some (nat b.rd), some (.ref q), some (nat n)]) (Ans.to (ans_or' (ans_not (ans_test (v_lelt (i := 0) (j := (n : Int)) val_c (val_var rfl) (v_lenL (SqL.of (s5 _ _ t1)) (val_var rfl))))) fun _ => ans_or' (ans_test (v_ne (x := .str r.h) (y := .str l.fr) (v_ixTn (j := 0) pwa5 (vs _ rfl rfl) rfl) (v_ixTn (j := 0) pla5 (vl _ rfl rfl) rfl) rfl)) fun _ => ans_test (v_gt (i := r.s) (j := b.tn) (v_ixTn (j := 1) pwa5 (vs _ rfl rfl) rfl) (val_var rfl))) (by
        rw [List.length_map, decide_eq_true (show (0 : Int) ≤ (n : Int) by omega), decide_eq_true (show (n : Int) < (tas.length : Int) by omega), decide_eq_true (congrArg V.str a3), decide_eq_false (show ¬ b.tn < r.s by omega)]
        rfl)) ?_
      refine sq_no (Ans.to (ans_test (v_eq (x := .str r.h) (y := .str lt.gl) (v_ixTn (j := 0) pwa5 (vs _ rfl rfl) rfl) (v_ixTn (j := 2) (SqT.of (s5 _ _ pta)) (vq _ rfl rfl) rfl) rfl)) (decide_eq_false fun e => a5 (V.str.inj e))) ?_
      refine asg_go (tup_go (cons_go (.str l.to) (v_ixTn (j := 1) pla5 (vl _ rfl rfl) rfl) (cons_go (.int (b.tn + l.tn)) (v_add (i := b.tn) (j := l.tn) (val_var rfl) (v_ixTn (j := 2) pla5 (vl _ rfl rfl) rfl)) (cons_go (nat b.rd) (val_var rfl) ?_))))
      refine ⟨by show 3 ≤ sizeLine; decide, fun u hu' => ?_⟩
      have s6 : Same H5 (upd H5 u (.tup [.str l.to, .int (b.tn + l.tn), nat b.rd])) := Same.new hu'
      have u6 : (upd H5 u (.tup [.str l.to, .int (b.tn + l.tn), nat b.rd])) u = some (.tup [.str l.to, .int (b.tn + l.tn), nat b.rd]) := upd_same
      generalize upd H5 u (.tup [.str l.to, .int (b.tn + l.tn), nat b.rd]) = H6 at s6 u6 ⊢
      have h6 := s6 _ _ h5
      refine ⟨_, rfl, _, rfl, ps, _, n, n, rfl, rfl, h6, ix_in (by rw [List.length_map]; exact lw), ?_⟩
      have ec : stepC N b = ⟨l.to, b.tn + l.tn, some b.rd⟩ := by unfold stepC toOf tnOf; rw [hl]
      have kk6 : ∀ x o, H6 x = some o → x ≠ ps → (upd H6 ps (.lst ((ws'.map V.ref).set n (.ref u)))) x = some o := fun x o e n => by rw [upd_ne n]; exact e
      refine ⟨ws'.set n u, _, rfl, fun x o e hne => kk6 x o (s6 _ _ (kk x o e hne)) hne, (s5.trans s6).mut gps, ?_, ?_⟩
      · rw [upd_same, ← List.map_set]
      · have es : sets (stepC N b) W (b.ns.take (i + 1)) = (sets (stepC N b) W (b.ns.take i)).set n (stepC N b) := by
          rw [take_snoc hn]
          unfold sets
          rw [List.foldl_append]
          rfl
        rw [es]
        exact Paired.set' (Wc_mut h6 (by rw [ec]; exact u6)) n (L2.Paired.mapP p5 fun x z h => Wc_mut h6 (h.mono s6))
    · rintro σ H5 ⟨ws', o7, rfl, kk, s5, h5, p5⟩
      rw [List.length_map, List.take_length] at p5
      exact k H5 ws' kk h5 p5
def spWalked : Sp := fun vs H Q _ => ∃ (pl pq pg ls : Addr) (N : Nt) (lts : List Lt) (bs : List Bg) (kst : List (List Key × V)), vs = [.ref pl, .ref pq, .ref pg, .ref ls] ∧ LOf (LnAt H) H pl N.lines ∧ LOf (LtAt H) H pq lts ∧ LOf (BgAt H) H pg bs ∧ H ls = some (.dT kst) ∧ lts.length ≤ 60 ∧ LogOk N lts bs ∧ bs.Pairwise Bef ∧
  (∀ b ∈ bs, valV kst [Sum.inl b.tn, Sum.inl (b.rd : Int)] = none) ∧ ∀ (H' : Hp) (p : Addr) (ws : List Addr), Same H H' → H p = none → H' p = some (.lst (ws.map V.ref)) → Paired (WcAt H') ws (runW N (w0 lts) bs) → Q (.ref p) H'
theorem ok__law_walked (T : Txt K mg c) : C8.Cal P w K mg base 2 "_law_walked" (spWalked) [] := by
  refine cal_of T.d__law_walked sc__law_walked (fun _ _ _ _ _ _ us hl => match us, hl with | [_, _, _, _], _ => rfl) (fun vs H Q E h => ?_) (fun f cdv A outer s H vs Q E hr h => ?_)
  · obtain ⟨pl, pq, pg, ls, N, lts, bs, kst, rfl, _⟩ := h
    rfl
  · obtain ⟨pl, pq, pg, ls, N, lts, bs, kst, rfl, hln, ⟨tas, t1, t2⟩, ⟨qs, q1, q2⟩, hls, few, log, ord, shut, k⟩ := h
    have hu := hu_of hr
    have T__law_bag_fits := ok__law_bag_fits (P := P) (w := w) (base := base) T
    refine ⟨_, (pss_cons (ps_setLc (i := 4) (own := [("_law_letter_here", 5)]) rfl sc__law_walked.nd rfl rfl (sw_true rfl rfl rfl (by decide +kernel)) (pi_list (pv 1)) (blkOk_by (own := [("_law_letter_here", 5)]) (N := N__law_walked) (sc := defScope s__law_walked) (by decide +kernel)) (fun _ _ _ _ _ => by exact (pg_name (i := 5) sc__law_walked.nd rfl (Or.inl rfl))) (fun _ _ _ _ _ => by exact pts_nil) (fun _ _ _ _ _ => by exact (pe_tup (pa_cons (pe_ix (ix_tupK (K := K) rfl) (pv 5) pe_int (fun _ _ => rfl)) (pa_cons (pe_ix (ix_tupK (K := K) rfl) (pv 5) pe_int (fun _ _ => rfl)) (pa_cons pe_non pa_nil))))))
  (pss_cons (ps_if (pt_not (pt_val (pe_callB call_isi (by rfl) T.b_isinstance (by decide +kernel) (pa_cons (pv 2) (pa_cons (pe_bty (n := "list") rfl T.b_list (by decide +kernel)) pa_nil))))) (pss_one (ps_ret pe_non)) pss_nil)
  (pss_cons (ps_for PassesOwn.never rfl (pi_enum (by rfl) T.b_enumerate (pa_cons (pv 2) pa_nil)) (pg_tup rfl (pgs_cons (pg_name (i := 6) sc__law_walked.nd rfl (Or.inl rfl)) (pgs_cons (pg_name (i := 7) sc__law_walked.nd rfl (Or.inl rfl)) pgs_nil))) (pss_cons (ps_if (PW.pt (pw_or (pt_not (pt_val (C8.pe_c T__law_bag_fits hr (by decide) rfl (pa_cons (pv 0) (pa_cons (pv 1) (pa_cons (pv 4) (pa_cons (pv 7) pa_nil))))))) (pw_or1 (pt_cmp (pc_din hu (pe_tup (pa_cons (pe_ix ix_tup (pv 7) pe_int (fun _ _ => rfl)) (pa_cons (pe_ix ix_tup (pv 7) pe_int (fun _ _ => rfl)) pa_nil))) (pv 3)))))) (pss_one (ps_ret pe_non)) pss_nil)
  (pss_one (ps_if (PW.pt (pw_and (pt_cmpR op_gt (pv 6) pe_int (nomark _)) (pw_and1 (pt_cmpR (op_ge2 hr.units0) (pe_tup (pa_cons (pe_ix ix_tup (pe_ix ix_list (pv 2) (pe_op op_sub (pv 6) pe_int) (fun _ _ => rfl)) pe_int (fun _ _ => rfl)) (pa_cons (pe_ix ix_tup (pe_ix ix_list (pv 2) (pe_op op_sub (pv 6) pe_int) (fun _ _ => rfl)) pe_int (fun _ _ => rfl)) pa_nil))) (pe_tup (pa_cons (pe_ix ix_tup (pv 7) pe_int (fun _ _ => rfl)) (pa_cons (pe_ix ix_tup (pv 7) pe_int (fun _ _ => rfl)) pa_nil))) (nomark _))))) (pss_one (ps_ret pe_non)) pss_nil))))
  (pss_one (ps_ret (pv 4)))))), ?_⟩
    have tl := t2.length
    refine ⟨_, rfl, pq, rfl, ⟨_, SqL.of t1⟩, fun D hD => ?_⟩
    refine lc_list (xs := tas.map V.ref) (fun i H' => ∃ ws : List Addr, Same H H' ∧ H' D = some (.lst (ws.map V.ref)) ∧ Paired (WcAt H') ws ((w0 lts).take i)) ⟨[], Same.new hD, upd_same, .nil⟩ (fun _ _ _ ⟨_, s, _, _⟩ => SqL.of (s _ _ t1)) ?_ ?_
    · rintro i x H1 hi ⟨ws, s, d, pw⟩
      obtain ⟨a, ha, rfl⟩ := map_of hi
      obtain ⟨lt, hlt, hla⟩ := Paired.at_l t2 ha
      have li := lt_of_at ha
      have hT : SqT K H1 a (ltV lt) := SqT.of (s _ _ hla)
      refine ⟨rfl, ?_⟩
      refine ⟨_, rfl, a, _, 0, .str lt.hs, rfl, rfl, hT, rfl, ?_⟩
      refine ⟨_, rfl, a, _, 1, .int lt.tn, rfl, rfl, hT, rfl, ?_⟩
      refine ⟨by show 3 ≤ sizeLine; decide, fun u hu' => ?_⟩
      have s2 : Same H1 (upd H1 u (.tup [.str lt.hs, .int lt.tn, .non])) := Same.new hu'
      have u2 : (upd H1 u (.tup [.str lt.hs, .int lt.tn, .non])) u = some (.tup [.str lt.hs, .int lt.tn, .non]) := upd_same
      generalize upd H1 u (.tup [.str lt.hs, .int lt.tn, .non]) = H2 at s2 u2 ⊢
      have d2 := s2 _ _ d
      have wl := pw.length
      rw [List.length_take] at wl
      refine ⟨_, d2, sz_lt (by rw [List.length_map]; omega), ws ++ [u], (s.trans s2).mut hD, ?_, ?_⟩
      · rw [upd_same, List.map_append]
        rfl
      · have e : (w0 lts)[i]? = some ⟨lt.hs, lt.tn, none⟩ := map_at _ hlt
        rw [take_snoc e]
        exact Paired.app (L2.Paired.mapP pw fun x z h => Wc_mut d2 (h.mono s2)) (.cons (Wc_mut d2 u2) .nil)
    · rintro H1 ⟨ws, s, d, pw⟩
      have wl0 : (w0 lts).length = lts.length := by unfold w0; rw [List.length_map]
      rw [List.length_map, tl, ← wl0, List.take_length] at pw
      refine sq_no (σ := [some (.ref pl), some (.ref pq), some (.ref pg), some (.ref ls), some (.ref D), none, none, none]) (Ans.to (ans_not (ans_val (val_isiT (a := true) (val_var rfl) (.base (.lst (s _ _ q1))) (by decide +kernel)))) rfl) ?_
      refine ⟨_, rfl, pg, _, rfl, SqL.of (s _ _ q1), ?_⟩
      refine for_it walk_enum (fun i σ H' => ∃ (ws : List Addr) (o6 o7 : Option V), σ = [some (.ref pl), some (.ref pq), some (.ref pg), some (.ref ls), some (.ref D), none, o6, o7] ∧ Same H H' ∧ H' D = some (.lst (ws.map V.ref)) ∧ Paired (WcAt H') ws (runW N (w0 lts) (bs.take i)))
        ⟨ws, _, _, rfl, s, d, pw⟩ (fun i σ H' _ ⟨_, _, _, _, s, _⟩ => SqL.of (s _ _ q1)) ?_ ?_
      · rintro i x σ H2 H3 hi ⟨ws, o6, o7, rfl, s2, d2, p2⟩ ⟨U, x1, x2, rfl, hU, rfl, e1, e2⟩
        cases e1
        obtain ⟨a, ha, rfl⟩ := map_of e2
        obtain ⟨b, hb, hba⟩ := Paired.at_l q2 ha
        have s3 : Same H2 (upd H2 U (.tup [.int (i : Int), .ref a])) := Same.new hU
        have u3 : (upd H2 U (.tup [.int (i : Int), .ref a])) U = some (.tup [.int (i : Int), .ref a]) := upd_same
        generalize upd H2 U (.tup [.int (i : Int), .ref a]) = H3 at s3 u3 ⊢
        refine ⟨U, _, rfl, SqT.of u3, rfl, _, _, rfl, _, _, rfl, rfl, ?_⟩
        have sH3 := s2.trans s3
        refine ⟨_, rfl, _, rfl, _, rfl, _, rfl, pl, pq, D, a, H, N, lts, _, b, ws, rfl, sH3, hD, hln, ⟨tas, t1, t2⟩, hba, s3 _ _ d2, L2.Paired.mapP p2 fun _ _ => WcAt.mono s3, few, log i b hb, fun H4 ws4 k4 d4 p4 => ⟨true, rfl, iteF ?_⟩⟩
        have sH4 : Same H H4 := keep_same k4 sH3 hD
        obtain ⟨q, b1, b2⟩ := id hba
        have hT : SqT K H4 a _ := SqT.of (sH4 _ _ b1)
        refine ⟨_, rfl, a, _, 0, .int b.tn, rfl, rfl, hT, rfl, ?_⟩
        refine ⟨_, rfl, a, _, 1, nat b.rd, rfl, rfl, hT, rfl, ?_⟩
        refine ⟨by show 2 ≤ sizeLine; decide, fun u hu' => ?_⟩
        have s5 : Same H4 (upd H4 u (.tup [.int b.tn, nat b.rd])) := Same.new hu'
        have u5 : (upd H4 u (.tup [.int b.tn, nat b.rd])) u = some (.tup [.int b.tn, nat b.rd]) := upd_same
        generalize upd H4 u (.tup [.int b.tn, nat b.rd]) = H5 at s5 u5 ⊢
        have sH5 := sH4.trans s5
        refine ⟨_, rfl, ls, _, rfl, DGet.t (k := [Sum.inl b.tn, Sum.inl (b.rd : Int)]) (sH5 _ _ hls) u5, ?_⟩
        rw [shut b (List.mem_of_getElem? hb)]
        refine ⟨false, rfl, iteF ?_⟩
        have d5 := s5 _ _ d4
        have p5 : Paired (WcAt H5) ws4 (runW N (w0 lts) (bs.take (i + 1))) := by
          rw [take_snoc hb, runW_snoc]
          exact L2.Paired.mapP p4 fun _ _ => WcAt.mono s5
        by_cases hi0 : i = 0
        · refine st_no (ans_and0 (Ans.to (ans_test (v_gt (i := (i : Int)) (j := 0) (val_var rfl) val_c)) (decide_eq_false (by omega)))) ?_
          exact ⟨ws4, _, _, rfl, sH5, d5, p5⟩
        · obtain ⟨j, rfl⟩ : ∃ j, i = j + 1 := ⟨i - 1, by omega⟩
          obtain ⟨b', hb'⟩ := at_of_lt (show j < bs.length by have := lt_of_at hb; omega)
          obtain ⟨a', ha', hba'⟩ := Paired.at_r q2 hb'
          obtain ⟨q', c1, c2⟩ := id hba'
          have bef := List.pairwise_iff_getElem.mp ord j (j + 1) (lt_of_at hb') (lt_of_at hb) (by omega)
          rw [(List.getElem?_eq_some_iff.mp hb').2, (List.getElem?_eq_some_iff.mp hb).2] at bef
          have test : ∀ Q : Bool → Hp → Prop, (∀ H6, Same H5 H6 → Q false H6) → tAnd (tTest (tOp (rI0 fun i j => .bl (decide (j < i))) (tVar 6) (tC (.int 0)))) (tTest (tOp (rGe2 K) (tTup (tCons (tOp (rIxT K) (tOp (rIxL K) (tVar 2) (tOp (rI0 fun i j => .int (i - j)) (tVar 6) (tC (.int 1)))) (tC (.int 0))) (tCons (tOp (rIxT K) (tOp (rIxL K) (tVar 2) (tOp (rI0 fun i j => .int (i - j)) (tVar 6) (tC (.int 1)))) (tC (.int 1))) tNil))) (tTup (tCons (tOp (rIxT K) (tVar 7) (tC (.int 0))) (tCons (tOp (rIxT K) (tVar 7) (tC (.int 1))) tNil))))) [some (.ref pl), some (.ref pq), some (.ref pg), some (.ref ls), some (.ref D), none, some (nat (j + 1)), some (.ref a)] H5 Q := fun Q hQ => by
            refine (Ans.to (b' := true) (ans_test (v_gt (i := ((j + 1 : Nat) : Int)) (j := 0) (val_var rfl) val_c)) (decide_eq_true (by omega))) _ ?_
            refine iteT ?_
            have vg : ∀ σ : L2.St, σ[2]? = some (some (.ref pg)) → σ[6]? = some (some (nat (j + 1))) → Val (tOp (rIxL K) (tVar 2) (tOp (rI0 fun i j => .int (i - j)) (tVar 6) (tC (.int 1)))) σ H5 (.ref a') := fun σ e1 e2 => v_ixL (i := (j : Int)) (SqL.of (sH5 _ _ q1)) (val_var e1) (Val.to (v_sub (i := ((j + 1 : Nat) : Int)) (j := 1) (val_var e2) val_c) (by congr 1; omega)) (atI_nat (refs_at ha'))
            have vgs := vg [some (.ref pl), some (.ref pq), some (.ref pg), some (.ref ls), some (.ref D), none, some (nat (j + 1)), some (.ref a)] rfl rfl
            refine top_go (tup_go (cons_go (.int b'.tn) (v_ixTn (j := 0) (SqT.of (sH5 _ _ c1)) vgs rfl) (cons_go (nat b'.rd) (v_ixTn (j := 1) (SqT.of (sH5 _ _ c1)) vgs rfl) ?_)))
            refine ⟨by show 2 ≤ sizeLine; decide, fun v hv => ?_⟩
            have s6 : Same H5 (upd H5 v (.tup [.int b'.tn, nat b'.rd])) := Same.new hv
            have v6 : (upd H5 v (.tup [.int b'.tn, nat b'.rd])) v = some (.tup [.int b'.tn, nat b'.rd]) := upd_same
            generalize upd H5 v (.tup [.int b'.tn, nat b'.rd]) = H6 at s6 v6 ⊢
            have hT6 : SqT K H6 a _ := SqT.of (s6 _ _ (sH5 _ _ b1))
            refine tup_go (cons_go (.int b.tn) (v_ixTn (j := 0) hT6 (val_var rfl) rfl) (cons_go (nat b.rd) (v_ixTn (j := 1) hT6 (val_var rfl) rfl) ?_))
            refine ⟨by show 2 ≤ sizeLine; decide, fun y hy => ?_⟩
            have s7 : Same H6 (upd H6 y (.tup [.int b.tn, nat b.rd])) := Same.new hy
            have y7 : (upd H6 y (.tup [.int b.tn, nat b.rd])) y = some (.tup [.int b.tn, nat b.rd]) := upd_same
            generalize upd H6 y (.tup [.int b.tn, nat b.rd]) = H7 at s7 y7 ⊢
            refine ⟨v, y, b'.tn, (b'.rd : Int), b.tn, (b.rd : Int), rfl, rfl, SqT.of (s7 _ _ v6), SqT.of y7, _, rfl, ?_⟩
            have bef : b'.tn < b.tn ∨ (b'.tn = b.tn ∧ b'.rd < b.rd) := bef
            rw [decide_eq_false (show ¬ (b.tn < b'.tn ∨ (b'.tn = b.tn ∧ (b.rd : Int) ≤ (b'.rd : Int))) by omega)]
            exact hQ H7 (s6.trans s7)
          refine test _ fun H6 s6 => iteF ?_
          exact ⟨ws4, _, _, rfl, sH5.trans s6, s6 _ _ d5, L2.Paired.mapP p5 fun _ _ => WcAt.mono s6⟩
      · rintro σ H2 ⟨ws, o6, o7, rfl, s2, d2, p2⟩
        rw [List.length_map, q2.length, List.take_length] at p2
        exact st_ret (val_var rfl) (k H2 D ws s2 hD d2 p2)
end
end PR
set_option Elab.async false
set_option maxRecDepth 100000
set_option linter.all false
set_option maxHeartbeats 400000
/-! The law's state; turns; whether a spot is right. -/
namespace PR
open PySem PySem.Spec PyProof.Rows L2
theorem call_go {sp : Sp} {dvs : List V} {E : XK} {t : TA} {σ : L2.St} {H : Hp} {Q : VK} (h : t σ H fun vs H1 => sp (vs ++ dvs) H1 Q E) : tCall sp dvs E t σ H Q := h
theorem DayAt.keepD {c : Cs} {H H' : Hp} {p q : Addr} {A : Da} {D : Dy} {u : HO} (d : DayAt c H p A D) (hq : H q = some u) (hu : isD u = true) (n : ¬ Mut A p q) (k : ∀ b o, H b = some o → b ≠ q → H' b = some o) : DayAt c H' p A D := by
  obtain ⟨as, h1, h2⟩ := d.stood
  obtain ⟨qs, g1, g2⟩ := d.gone
  refine ⟨fun b o e => k b o (d.same b o e) fun z => ?_, d.un, d.nod, k _ _ d.po fun z => n (.inl z.symm), d.net, d.ways, k _ _ d.told fun z => n (.inr (.inl z.symm)), d.post, ⟨as, k _ _ h1 fun z => n (.inr (.inr (.inl z.symm))), h2⟩, k _ _ d.closed fun z => n (.inr (.inr (.inr (.inl z.symm)))), ⟨qs, k _ _ g1 fun z => n (.inr (.inr (.inr (.inr z.symm)))), g2⟩, d.ne⟩
  have h1 := d.nod b o e
  have h2 := d.same b o e
  rw [z, hq] at h2
  cases h2
  rw [hu] at h1
  cases h1
structure LawSt (c : Cs) (G H : Hp) (p lc ls : Addr) (A : Da) (D : Dy) (kst : List (List Key × V)) (first : Int) (a b : Nat) : Prop where
  day : DayAt c H p A D
  hc : H lc = some (.dK D.kc)
  hs : H ls = some (.dT kst)
  nc : ¬ Mut A p lc
  ns : ¬ Mut A p ls
  gh : Same G H
  gm : ∀ x, Mut A p x → G x = none
  gc : G lc = none
  gs : G ls = none
  good : Good first D kst
  nok : NtOk D.N
  tf : ∃ tf, RepT D.kt tf ∧ TfOk D.N tf
  kc : D.kc.length ≤ a
  kt : D.kt.length ≤ 144 + a
  ks : kst.length ≤ b
  bs : D.bs.length ≤ b
  few : D.lts.length ≤ 12
  keys : ∀ kv ∈ D.kc, ∃ r : Int, kv.1 = Sum.inl r
theorem LawSt.own {c : Cs} {G H H' : Hp} {p lc ls : Addr} {A A' : Da} {D : Dy} {kst : List (List Key × V)} {first : Int} {a b : Nat} (L : LawSt c G H p lc ls A D kst first a b) (O : Own H H' p A A') :
    H' lc = some (.dK D.kc) ∧ H' ls = some (.dT kst) ∧ ¬ Mut A' p lc ∧ ¬ Mut A' p ls ∧ Same G H' ∧ ∀ x, Mut A' p x → G x = none := by
  refine ⟨O.kp _ _ L.hc L.nc, O.kp _ _ L.hs L.ns, fun m => ?_, fun m => ?_, fun x o e => O.kp x o (L.gh x o e) fun m => ?_, fun x m => ?_⟩
  · rcases O.nw _ m with m | m
    · exact L.nc m
    · rw [L.hc] at m; cases m
  · rcases O.nw _ m with m | m
    · exact L.ns m
    · rw [L.hs] at m; cases m
  · rw [L.gm x m] at e; cases e
  · rcases O.nw x m with m | m
    · exact L.gm x m
    · exact L.gh.free m
theorem LawSt.mono {c : Cs} {G H H' : Hp} {p lc ls : Addr} {A : Da} {D : Dy} {kst : List (List Key × V)} {first : Int} {a b : Nat} (L : LawSt c G H p lc ls A D kst first a b) (s : Same H H') : LawSt c G H' p lc ls A D kst first a b :=
  ⟨L.day.mono s, s _ _ L.hc, s _ _ L.hs, L.nc, L.ns, L.gh.trans s, L.gm, L.gc, L.gs, L.good, L.nok, L.tf, L.kc, L.kt, L.ks, L.bs, L.few, L.keys⟩
theorem LawSt.up {c : Cs} {G H : Hp} {p lc ls : Addr} {A : Da} {D : Dy} {kst : List (List Key × V)} {first : Int} {a b a' b' : Nat} (L : LawSt c G H p lc ls A D kst first a b) (ha : a ≤ a') (hb : b ≤ b') : LawSt c G H p lc ls A D kst first a' b' :=
  ⟨L.day, L.hc, L.hs, L.nc, L.ns, L.gh, L.gm, L.gc, L.gs, L.good, L.nok, L.tf, Nat.le_trans L.kc ha, by have := L.kt; omega, Nat.le_trans L.ks hb, Nat.le_trans L.bs hb, L.few, L.keys⟩
theorem mem_putK {κ : Type} [DecidableEq κ] {kvs : List (κ × V)} {k : κ} {v : V} {kv : κ × V} (h : kv ∈ putK kvs k v) : kv.1 = k ∨ kv ∈ kvs := by
  unfold putK at h
  split at h
  · obtain ⟨x, hx, rfl⟩ := List.mem_map.mp h
    by_cases q : x.1 = k
    · rw [if_pos q]
      exact .inl q
    · rw [if_neg q]
      exact .inr hx
  · rcases List.mem_append.mp h with h | h
    · exact .inr h
    · rw [List.mem_singleton.mp h]
      exact .inl rfl
theorem valV_none {κ : Type} [DecidableEq κ] {k : κ} : ∀ {kvs : List (κ × V)}, (∀ kv ∈ kvs, kv.1 ≠ k) → valV kvs k = none
  | [], _ => rfl
  | p :: r, h => by
    rw [valV_neg (p := p) (h p List.mem_cons_self)]
    exact valV_none fun kv m => h kv (List.mem_cons_of_mem _ m)
theorem Good.shutN {first : Int} {D : Dy} {kst : List (List Key × V)} (g : Good first D kst) : ∀ b ∈ D.bs, valV kst [Sum.inl b.tn, Sum.inl (b.rd : Int)] = none := fun b hb => valV_none fun kv hkv e => by
  obtain ⟨t, r, e1, _, h⟩ := g.shut kv hkv
  rw [e1] at e
  injection e with e2 e3
  injection e3 with e3 _
  exact h b hb ⟨(Sum.inl.inj e2).symm, (Sum.inl.inj e3).symm⟩
theorem Good.str {first : Int} {D : Dy} {kst : List (List Key × V)} (g : Good first D kst) (ok : NtOk D.N) {n : Nat} {lt : Lt} {r : Wc} {t : Int} (h1 : D.lts[n]? = some lt) (h2 : (runW D.N (w0 D.lts) D.bs)[n]? = some r) : SptStr (dueS lt r t) := by
  obtain ⟨sp, hs⟩ := at_of_lt (show n < D.sps.length by rw [g.rel.ls]; exact lt_of_at h1)
  have rel := g.rel.all n lt r sp h1 h2 hs
  have hn : PyData.strOk r.h = true := by
    refine strOk_name (ok.nm _ ?_)
    cases e : r.by_ with
    | none =>
      rw [(rel.st e).1]
      exact (g.lets lt (List.mem_of_getElem? h1)).1.hs
    | some q =>
      obtain ⟨l, hl, ht⟩ := rel.li q e
      rw [← ht]
      exact (ok.ln l (List.mem_of_getElem? hl)).to
  unfold dueS
  split
  · split <;> trivial
  · split
    · trivial
    · exact hn
section
variable {P : Program} {w : World} {K : PySem.W.Frag} {mg : Str → Option Value} {base : Heap} {c : Cs}
def spTurns (c : Cs) : Sp := fun vs H Q _ => ∃ (p lc ls : Addr) (G : Hp) (A : Da) (D : Dy) (kst : List (List Key × V)) (first : Int) (a b m : Nat), vs = [.ref p, .ref lc, .ref ls, nat m] ∧ LawSt c G H p lc ls A D kst first a b ∧ m ≤ 2 ∧ a ≤ 40 ∧ b ≤ 8000 ∧
  ∀ H' A' D' kst', LawSt c G H' p lc ls A' D' kst' first a (b + 40 * m) → D'.N = D.N → Q .non H'
theorem ok__law_turns (T : Txt K mg c) : C8.Cal P w K mg base 6 "_law_turns" (spTurns c) [] := by
  refine cal_of T.d__law_turns sc__law_turns (fun _ _ _ _ _ _ us hl => match us, hl with | [_, _, _, _], _ => rfl) (fun vs H Q E h => ?_) (fun f cdv A outer s H vs Q E hr h => ?_)
  · obtain ⟨p, lc, ls, G, A, D, kst, first, a, b, m, rfl, _⟩ := h
    rfl
  · obtain ⟨p, lc, ls, G, A, D, kst, first, a, b, m, rfl, L, m2, a40, b8, k⟩ := h
    have hu := hu_of hr
    have T_Day_now := ok_Day_now (P := P) (w := w) (base := base) T
    have T_Day_pass_turn := ok_Day_pass_turn (P := P) (w := w) (base := base) T
    refine ⟨_, (pss_one (ps_for PassesOwn.never rfl (pi_range1 rfl T.b_range (pa_cons (pv 3) pa_nil)) (pg_name (i := 4) sc__law_turns.nd rfl (Or.inl rfl)) (pss_cons (ps_lock (ps_for PassesOwn.never rfl (pi_keys (pv 1)) (pg_name (i := 5) sc__law_turns.nd rfl (Or.inl rfl)) (pss_one (ps_dput hu (pv 2) (pe_tup (pa_cons (C8.pe_mt0 T_Day_now hr (by decide) (pv 0)) (pa_cons (pv 5) pa_nil))) pe_bl rfl))))
  (pss_one (ps_expr (C8.pe_mt0 T_Day_pass_turn hr (by decide) (pv 0))))))), ?_⟩
    refine ⟨_, rfl, (m : Int), rfl, by omega, by omega, ?_⟩
    refine for_range (fun i σ H' => ∃ (A' : Da) (D' : Dy) (kst' : List (List Key × V)) (o4 o5 : Option V), σ = [some (.ref p), some (.ref lc), some (.ref ls), some (nat m), o4, o5] ∧ LawSt c G H' p lc ls A' D' kst' first a (b + 40 * i) ∧ D'.N = D.N)
      ⟨A, D, kst, _, _, rfl, L, rfl⟩ ?_ ?_
    · rintro i σ H1 hi ⟨A1, D1, kst1, o4, o5, rfl, L1, eN⟩
      have hi : i < m := by omega
      have lsc : ls ≠ lc := ne_of L1.hs L1.hc (by intro z; cases z)
      refine ⟨lc, _, L1.hc, trivial, fun od => ?_⟩
      have k2 : ∀ x o, H1 x = some o → x ≠ lc → (upd H1 lc (.frz od (.dK D1.kc))) x = some o := fun x o e n => by rw [upd_ne n]; exact e
      refine ⟨_, rfl, lc, od, rfl, .inl ⟨D1.kc, upd_same, ?_⟩⟩
      refine for_it walk_keys (fun j σ H' => ∃ (ks : List (List Key × V)) (o5 : Option V), σ = [some (.ref p), some (.ref lc), some (.ref ls), some (nat m), some (.int (0 + (i : Int))), o5] ∧ DayAt c H' p A1 D1 ∧ (∀ x o, H1 x = some o → x ≠ lc → x ≠ ls → H' x = some o) ∧ H' lc = some (.frz od (.dK D1.kc)) ∧ H' ls = some (.dT ks) ∧ ks.length ≤ kst1.length + j ∧
        ∀ kv ∈ ks, kv ∈ kst1 ∨ ∃ r : Int, kv.1 = [Sum.inl D1.tn, Sum.inl r] ∧ ∃ x ∈ D1.kc, x.1 = Sum.inl r)
        ⟨kst1, _, rfl, L1.day.keepD L1.hc rfl L1.nc k2, (fun x o e n _ => k2 x o e n), upd_same, k2 _ _ L1.hs lsc, Nat.le_refl _, fun kv h => .inl h⟩ (fun j σ H' _ ⟨_, _, _, _, _, h, _⟩ => h) ?_ ?_
      · rintro j x σ H2 H3 hj ⟨ks, o5, rfl, d2, kk, hc2, hs2, lk, hks⟩ ⟨rfl, key, v, hkv, rfl⟩
        obtain ⟨r, hr1⟩ := L1.keys _ (List.mem_of_getElem? hkv)
        have hr1 : key = Sum.inl r := hr1
        subst hr1
        have b1 := L1.ks
        have c1 := L1.kc
        refine ⟨_, rfl, _, rfl, p, A1.dx, _, rfl, d2.po, ln_Day_now, p, A1, D1, rfl, d2, _, rfl, (by show 2 ≤ sizeLine; decide), fun u hu' => ?_⟩
        have s3 : Same H3 (upd H3 u (.tup [.int D1.tn, .int r])) := Same.new hu'
        have u3 : (upd H3 u (.tup [.int D1.tn, .int r])) u = some (.tup [.int D1.tn, .int r]) := upd_same
        have hj2 : j < D1.kc.length := hj
        refine ⟨ls, _, rfl, DPut.t (k := [Sum.inl D1.tn, Sum.inl r]) (s3 _ _ hs2) u3 (sz_lt (by omega)), ?_⟩
        have k4 : ∀ x o, (upd H3 u (.tup [.int D1.tn, .int r])) x = some o → x ≠ ls → (upd (upd H3 u (.tup [.int D1.tn, .int r])) ls (.dT (putK ks [Sum.inl D1.tn, Sum.inl r] (.bl true)))) x = some o := fun x o e n => by rw [upd_ne n]; exact e
        refine ⟨putK ks [Sum.inl D1.tn, Sum.inl r] (.bl true), _, rfl, (d2.mono s3).keepD (s3 _ _ hs2) rfl L1.ns k4, fun x o e n1 n2 => k4 _ _ (s3 _ _ (kk x o e n1 n2)) n2, k4 _ _ (s3 _ _ hc2) lsc.symm, upd_same, ?_, fun kv hkv' => ?_⟩
        · have := length_putK ks [Sum.inl D1.tn, Sum.inl r] (.bl true)
          omega
        · rcases mem_putK hkv' with e | h
          · exact .inr ⟨r, e, _, List.mem_of_getElem? hkv, rfl⟩
          · exact hks kv h
      · rintro σ H2 ⟨ks, o5, rfl, d2, kk, hc2, hs2, lk, hks⟩
        refine ⟨hc2, ?_⟩
        have k3 : ∀ x o, H2 x = some o → x ≠ lc → (upd H2 lc (.dK D1.kc)) x = some o := fun x o e n => by rw [upd_ne n]; exact e
        have d3 : DayAt c (upd H2 lc (.dK D1.kc)) p A1 D1 := d2.keepD hc2 rfl L1.nc k3
        have hc3 : (upd H2 lc (.dK D1.kc)) lc = some (.dK D1.kc) := upd_same
        have hs3 := k3 _ _ hs2 lsc
        have kk3 : ∀ x o, H1 x = some o → x ≠ ls → (upd H2 lc (.dK D1.kc)) x = some o := fun x o e n => by
          by_cases z : x = lc
          · rw [z, upd_same]
            rw [z, L1.hc] at e
            exact e
          · exact k3 _ _ (kk x o e z n) z
        generalize upd H2 lc (.dK D1.kc) = H3 at d3 hc3 hs3 kk3 ⊢
        obtain ⟨tf, rep, tok⟩ := L1.tf
        have g1 := L1.good
        have b1 := L1.bs
        have few := L1.few
        refine ⟨_, rfl, p, A1.dx, _, rfl, d3.po, ln_Day_pass_turn, p, A1, D1, tf, rfl, d3, g1.len, by omega, g1.spo, by omega, rep, tok, L1.nok, fun v H4 A4 bs O4 d4 sent inc blen => ?_⟩
        have gh3 : Same G H3 := fun x o e => kk3 x o (L1.gh x o e) fun z => by rw [z, L1.gs] at e; cases e
        have g4 := g1.pass tok sent inc hks
        have hc4 := O4.kp _ _ hc3 L1.nc
        have hs4 := O4.kp _ _ hs3 L1.ns
        refine ⟨A4, _, ks, _, _, rfl, ⟨d4, hc4, hs4, fun mm => ?_, fun mm => ?_, fun x o e => O4.kp x o (gh3 x o e) fun mm => ?_, fun x mm => ?_, L1.gc, L1.gs, g4, L1.nok, ⟨tf, rep, tok⟩, L1.kc, L1.kt, ?_, ?_, L1.few, L1.keys⟩, eN⟩
        · rcases O4.nw _ mm with mm | mm
          · exact L1.nc mm
          · rw [hc3] at mm; cases mm
        · rcases O4.nw _ mm with mm | mm
          · exact L1.ns mm
          · rw [hs3] at mm; cases mm
        · rw [L1.gm x mm] at e; cases e
        · rcases O4.nw x mm with mm | mm
          · exact L1.gm x mm
          · exact gh3.free mm
        · have := L1.ks
          have := L1.kc
          omega
        · show (D1.bs ++ bs).length ≤ _
          rw [List.length_append]
          omega
    · rintro σ H1 ⟨A1, D1, kst1, o4, o5, rfl, L1, eN⟩
      have em : (m : Int).toNat = m := by omega
      rw [em] at L1
      exact k H1 A1 D1 kst1 L1 eN
def spRight (c : Cs) : Sp := fun vs H Q _ => ∃ (p lc ls pl : Addr) (G : Hp) (A : Da) (D : Dy) (kst : List (List Key × V)) (first : Int) (a b : Nat) (n : Int), vs = [.ref p, .ref pl, .ref ls, .int n] ∧ LawSt c G H p lc ls A D kst first a b ∧ LOf (LnAt G) G pl D.N.lines ∧ ∀ H', Same H H' → Q (.bl true) H'
theorem ok__law_spot_right (T : Txt K mg c) : C8.Cal P w K mg base 5 "_law_spot_right" (spRight c) [] := by
  refine cal_of T.d__law_spot_right sc__law_spot_right (fun _ _ _ _ _ _ us hl => match us, hl with | [_, _, _, _], _ => rfl) (fun vs H Q E h => ?_) (fun f cdv A outer s H vs Q E hr h => ?_)
  · obtain ⟨p, lc, ls, pl, G, A, D, kst, first, a, b, n, rfl, _⟩ := h
    rfl
  · obtain ⟨p, lc, ls, pl, G, A, D, kst, first, a, b, n, rfl, L, hpl, k⟩ := h
    have hu := hu_of hr
    have T_Day_letters := ok_Day_letters (P := P) (w := w) (base := base) T
    have T_Day_log := ok_Day_log (P := P) (w := w) (base := base) T
    have T_Day_now := ok_Day_now (P := P) (w := w) (base := base) T
    have T_Day_spot := ok_Day_spot (P := P) (w := w) (base := base) T
    have T__law_walked := ok__law_walked (P := P) (w := w) (base := base) T
    have T__law_due := ok__law_due (P := P) (w := w) (base := base) T
    have T__law_told := ok__law_told (P := P) (w := w) (base := base) T
    refine ⟨_, (pss_cons (ps_set (i := 4) sc__law_spot_right.nd rfl (Or.inl rfl) (C8.pe_mt0 T_Day_letters hr (by decide) (pv 0)))
  (pss_cons (ps_set (i := 5) sc__law_spot_right.nd rfl (Or.inl rfl) (C8.pe_c T__law_walked hr (by decide) rfl (pa_cons (pv 1) (pa_cons (pv 4) (pa_cons (C8.pe_mt0 T_Day_log hr (by decide) (pv 0)) (pa_cons (pv 2) pa_nil))))))
  (pss_cons (ps_if (pt_cmpR op_isN (pv 5) pe_non (nomark _)) (pss_one (ps_ret pe_bl)) pss_nil)
  (pss_cons (ps_for PassesOwn.never rfl (pi_range1 rfl T.b_range (pa_cons (pe_callB call_len_seq (by rfl) T.b_len PySem.boot_len (pa_cons (pv 4) pa_nil)) pa_nil)) (pg_name (i := 6) sc__law_spot_right.nd rfl (Or.inl rfl)) (pss_one (ps_if (pt_cmpR op_eq (pv 6) (pe_op op_mod (pv 3) (pe_callB call_len_seq (by rfl) T.b_len PySem.boot_len (pa_cons (pv 4) pa_nil))) (nomark _)) (pss_cons (ps_set (i := 7) sc__law_spot_right.nd rfl (Or.inl rfl) (C8.pe_c T__law_due hr (by decide) rfl (pa_cons (pe_ix ix_list (pv 4) (pv 6) (fun _ _ => rfl)) (pa_cons (pe_ix ix_list (pv 5) (pv 6) (fun _ _ => rfl)) (pa_cons (C8.pe_mt0 T_Day_now hr (by decide) (pv 0)) pa_nil)))))
  (pss_one (ps_if (pt_cmpR (op_neD hr.units) (C8.pe_c T__law_told hr (by decide) rfl (pa_cons (C8.pe_mt T_Day_spot hr (by decide) (pv 0) (pa_cons (pv 6) pa_nil)) pa_nil)) (pv 7) (nomark _)) (pss_one (ps_ret pe_bl)) pss_nil))) pss_nil)))
  (pss_one (ps_ret pe_bl)))))), ?_⟩
    refine ⟨_, rfl, p, A.dx, _, rfl, L.day.po, ln_Day_letters, p, A, D, rfl, L.day, fun H1 pq s1 hpq hlt => ?_⟩
    have d1 := L.day.mono s1
    refine ⟨_, rfl, _, rfl, _, rfl, p, A.dx, _, rfl, d1.po, ln_Day_log, p, A, D, rfl, d1, fun H2 pg s2 hpg hlog => ?_⟩
    have d2 := d1.mono s2
    have s12 := s1.trans s2
    have few := L.few
    have good := L.good
    refine ⟨_, rfl, pl, pq, pg, ls, D.N, D.lts, D.bs, kst, rfl, hpl.mono (L.gh.trans s12) (fun _ _ => LnAt.mono (L.gh.trans s12)), hlt.mono s2 (fun _ _ => LtAt.mono s2), hlog, s12 _ _ L.hs, by omega, good.log, good.ord, good.shutN, fun H3 ps ws s3 hps e3 p3 => ?_⟩
    have s13 := s12.trans s3
    have d3 := d2.mono s3
    obtain ⟨tas, t1, t2⟩ := hlt
    have t1' := s3 _ _ (s2 _ _ t1)
    have tl := t2.length
    have rl := good.rel.lw
    refine sq_no (Ans.to (ans_test (v_isN (val_var rfl))) rfl) ?_
    refine ⟨_, rfl, pq, _, rfl, .inl (SqL.of t1'), (D.lts.length : Int), (by rw [List.length_map, tl]), by omega, by omega, ?_⟩
    refine for_range (fun i σ H' => ∃ (o6 o7 : Option V), σ = [some (.ref p), some (.ref pl), some (.ref ls), some (.int n), some (.ref pq), some (.ref ps), o6, o7] ∧ Same H3 H')
      ⟨_, _, rfl, Same.refl _⟩ ?_ ?_
    · rintro i σ H4 hi ⟨o6, o7, rfl, s4⟩
      have hi : i < D.lts.length := by omega
      rw [Int.zero_add]
      have t4 := s4 _ _ t1'
      refine st_if (a := decide (V.int (i : Int) = V.int (n % (D.lts.length : Int)))) (ans_test (v_eq (val_var rfl) (v_mod (j := (D.lts.length : Int)) (val_var rfl) (Val.to (v_lenL (SqL.of t4) (val_var rfl)) (by rw [List.length_map, tl])) (by omega)) rfl)) (fun _ => ?_) (fun _ => ⟨_, _, rfl, s4⟩)
      obtain ⟨lt, hlt'⟩ := at_of_lt hi
      obtain ⟨r, hr2⟩ := at_of_lt (show i < (runW D.N (w0 D.lts) D.bs).length by omega)
      obtain ⟨sp, hsp⟩ := at_of_lt (show i < D.sps.length by rw [← good.len]; exact hi)
      obtain ⟨ta, hta, pta⟩ := Paired.at_r t2 hlt'
      obtain ⟨wa, hwa, pwa⟩ := Paired.at_r p3 hr2
      have d4 := d3.mono s4
      refine sq_seq (asg_go (call_go (cons_go (.ref ta) (v_ixL (i := (i : Int)) (SqL.of t4) (val_var rfl) (val_var rfl) (atI_nat (refs_at hta))) (cons_go (.ref wa) (v_ixL (i := (i : Int)) (SqL.of (s4 _ _ e3)) (val_var rfl) (val_var rfl) (atI_nat (refs_at hwa))) ?_))))
      refine ⟨_, rfl, p, A.dx, _, rfl, d4.po, ln_Day_now, p, A, D, rfl, d4, ?_⟩
      refine ⟨ta, wa, lt, r, D.tn, rfl, pta.mono (s2.trans (s3.trans s4)), pwa.mono s4, fun e => good.past r (List.mem_of_getElem? hr2) e, fun H5 l5 s5 hl5 dp5 => ?_⟩
      have d5 := d4.mono s5
      -- told(day.spot(number)) != due
      refine ⟨_, rfl, p, A.dx, _, rfl, d5.po, ln_Day_spot, _, rfl, p, A, D, i, lt, sp, rfl, d5, hlt', hsp, good.spo, fun a6 H6 s6 sp6 => ?_⟩
      rw [good.spot hlt' hr2 hsp] at sp6
      refine ⟨a6, _, rfl, sp6, fun H7 l7 s7 hl7 dp7 => ?_⟩
      have sh := lay_told (good.str L.nok (t := D.tn) hlt' hr2)
      refine ⟨_, rfl, _, _, told_dp dp7, (told_dp dp5).mono (s6.trans s7), shaped_of sh (by decide), shaped_of sh (by decide), ?_⟩
      rw [SeqAt.eqv_refl _ sh.1]
      refine ⟨false, rfl, iteF ?_⟩
      exact ⟨_, _, rfl, s4.trans (s5.trans (s6.trans s7))⟩
    · rintro σ H4 ⟨o6, o7, rfl, s4⟩
      exact k H4 (s13.trans s4)
end
end PR
set_option Elab.async false
set_option maxRecDepth 100000
set_option linter.all false
set_option maxHeartbeats 400000
/-! The law's changes of a day. -/
namespace PR
open PySem PySem.Spec PyProof.Rows L2
theorem two_apart {n m : Int} (hm : 2 ≤ m) : n / 8 % m ≠ (n / 8 + 1 + n / 96 % (m - 1)) % m := fun e => by
  have h1 := Int.emod_lt_of_pos (n / 96) (show 0 < m - 1 by omega)
  have h2 := Int.emod_nonneg (n / 96) (show m - 1 ≠ 0 by omega)
  generalize n / 96 % (m - 1) = y at e h1 h2
  generalize n / 8 = x at e
  have e1 := (Int.emod_eq_emod_iff_emod_sub_eq_zero).mp e.symm
  have e2 : x + 1 + y - x = 1 + y := by omega
  rw [e2, Int.emod_eq_of_lt (by omega) (by omega)] at e1
  omega
section
variable {P : Program} {w : World} {K : PySem.W.Frag} {mg : Str → Option Value} {base : Heap} {c : Cs}
def spChange (c : Cs) : Sp := fun vs H Q _ => ∃ (p pz pl : Addr) (A : Da) (D : Dy) (tf : Str → Str → Option Nat) (n : Int), vs = [.ref p, .ref pz, .ref pl, .int n] ∧ DayAt c H p A D ∧ H pz = some (.lst (D.N.names.map V.str)) ∧ LOf (LnAt H) H pl D.N.lines ∧ RepT D.kt tf ∧ TfOk D.N tf ∧ NtOk D.N ∧
  2 ≤ D.N.names.length ∧ 1 ≤ D.N.lines.length ∧ D.kt.length ≤ 5000 ∧ D.kc.length ≤ 5000 ∧
  ∀ (H' : Hp) (q : Addr) (dd : Deed) (kt : List (List Key × V)) (tf' : Str → Str → Option Nat), Own H H' p A A → DayAt c H' p A { D with kc := noteK D.kc dd, kt := kt } → RepT kt tf' → TfOk D.N tf' → kt.length ≤ D.kt.length + 1 → DeedAt H' q dd → Q (.ref q) H'
theorem ok__law_change (T : Txt K mg c) : C8.Cal P w K mg base 5 "_law_change" (spChange c) [] := by
  refine cal_of T.d__law_change sc__law_change (fun _ _ _ _ _ _ us hl => match us, hl with | [_, _, _, _], _ => rfl) (fun vs H Q E h => ?_) (fun f cdv A outer s H vs Q E hr h => ?_)
  · obtain ⟨p, pz, pl, A, D, tf, n, rfl, _⟩ := h
    rfl
  · obtain ⟨p, pz, pl, A, D, tf, n, rfl, d, hz, ⟨las, g1, g2⟩, rep, tok, nok, z2, l1, fkt, fkc, k⟩ := h
    have hu := hu_of hr
    have T_Day_shut := ok_Day_shut (P := P) (w := w) (base := base) T
    have T_Day_reopen := ok_Day_reopen (P := P) (w := w) (base := base) T
    have T_Day_drop_way := ok_Day_drop_way (P := P) (w := w) (base := base) T
    have T_Day_set_way := ok_Day_set_way (P := P) (w := w) (base := base) T
    refine ⟨_, (pss_cons (ps_set (i := 4) sc__law_change.nd rfl (Or.inr rfl) (pe_ix ix_list (pv 1) (pe_op op_mod (pe_op op_fdiv (pv 3) pe_int) (pe_callB call_len_seq (by rfl) T.b_len PySem.boot_len (pa_cons (pv 1) pa_nil))) (fun _ _ => rfl)))
  (pss_cons (ps_set (i := 5) sc__law_change.nd rfl (Or.inl rfl) (pe_ix ix_list (pv 1) (pe_op op_mod (pe_op op_add (pe_op op_add (pe_op op_fdiv (pv 3) pe_int) pe_int) (pe_op op_mod (pe_op op_fdiv (pv 3) pe_int) (pe_op op_sub (pe_callB call_len_seq (by rfl) T.b_len PySem.boot_len (pa_cons (pv 1) pa_nil)) pe_int))) (pe_callB call_len_seq (by rfl) T.b_len PySem.boot_len (pa_cons (pv 1) pa_nil))) (fun _ _ => rfl)))
  (pss_cons (ps_set (i := 6) sc__law_change.nd rfl (Or.inl rfl) (pe_op op_mod (pe_op op_fdiv (pv 3) pe_int) (pe_callB call_len_seq (by rfl) T.b_len PySem.boot_len (pa_cons (pv 2) pa_nil))))
  (pss_cons (ps_set (i := 7) sc__law_change.nd rfl (Or.inl rfl) (pe_op op_mod (pe_op op_fdiv (pv 3) pe_int) pe_int))
  (pss_cons (ps_if (pt_cmpR op_eq (pv 7) pe_int (nomark _)) (pss_one (ps_ret (pe_lst (pa_cons pe_str (pa_cons (pv 6) (pa_cons (C8.pe_mt T_Day_shut hr (by decide) (pv 0) (pa_cons (pv 6) pa_nil)) pa_nil)))))) pss_nil)
  (pss_cons (ps_if (pt_cmpR op_eq (pv 7) pe_int (nomark _)) (pss_one (ps_ret (pe_lst (pa_cons pe_str (pa_cons (pv 6) (pa_cons (C8.pe_mt T_Day_reopen hr (by decide) (pv 0) (pa_cons (pv 6) pa_nil)) pa_nil)))))) pss_nil)
  (pss_cons (ps_setLc (i := 8) (own := [("_law_k", 9)]) rfl sc__law_change.nd rfl rfl (sw_true rfl rfl rfl (by decide +kernel)) (pi_range1 rfl T.b_range (pa_cons (pe_callB call_len_seq (by rfl) T.b_len PySem.boot_len (pa_cons (pv 2) pa_nil)) pa_nil)) (blkOk_by (own := [("_law_k", 9)]) (N := N__law_change) (sc := defScope s__law_change) (by decide +kernel)) (fun _ _ _ _ _ => by exact (pg_name (i := 9) sc__law_change.nd rfl (Or.inl rfl))) (fun _ _ _ _ _ => by exact (pts_one (pt_cmpR op_eq (pe_ix (ix_tupK (K := K) rfl) (pe_ix (ix_listK (K := K) rfl) (pv 2) (pv 9) (fun _ _ => rfl)) pe_int (fun _ _ => rfl)) (pv 4) (nomark _)))) (fun _ _ _ _ _ => by exact (pv 9)))
  (pss_cons (ps_if (PW.pt (pw_or (pt_cmpR op_eq (pv 7) pe_int (nomark _)) (pw_or1 (pt_cmpR (op_eqD hr.units) (pv 8) (pe_lst pa_nil) (nomark _))))) (pss_one (ps_ret (pe_lst (pa_cons pe_str (pa_cons (pe_tup (pa_cons (pv 4) (pa_cons (pv 5) pa_nil))) (pa_cons pe_non (pa_cons (C8.pe_mt T_Day_drop_way hr (by decide) (pv 0) (pa_cons (pv 4) (pa_cons (pv 5) pa_nil))) pa_nil))))))) pss_nil)
  (pss_cons (ps_set (i := 6) sc__law_change.nd rfl (Or.inl rfl) (pe_ix ix_list (pv 8) (pe_op op_mod (pe_op op_fdiv (pv 3) pe_int) (pe_callB call_len_seq (by rfl) T.b_len PySem.boot_len (pa_cons (pv 8) pa_nil))) (fun _ _ => rfl)))
  (pss_one (ps_ret (pe_lst (pa_cons pe_str (pa_cons (pe_tup (pa_cons (pv 4) (pa_cons (pv 5) pa_nil))) (pa_cons (pv 6) (pa_cons (C8.pe_mt T_Day_set_way hr (by decide) (pv 0) (pa_cons (pv 4) (pa_cons (pv 5) (pa_cons (pv 6) pa_nil)))) pa_nil)))))))))))))))), ?_⟩
    have nfew := nok.few
    have lfew := nok.fl
    have gl := g2.length
    obtain ⟨m, hm⟩ : ∃ m : Int, m = (D.N.names.length : Int) := ⟨_, rfl⟩
    obtain ⟨ml, hml⟩ : ∃ m : Int, m = (D.N.lines.length : Int) := ⟨_, rfl⟩
    have vlen : ∀ σ : L2.St, σ[1]? = some (some (.ref pz)) → Val (tCB (fun xs H Q => ∃ p ys, xs = [.ref p] ∧ (SqL K H p ys ∨ SqT K H p ys) ∧ Q (.int ys.length) H) (tCons (tVar 1) tNil)) σ H (.int m) := fun σ e => by
      rw [hm, ← List.length_map (f := V.str)]
      exact v_lenL (SqL.of hz) (val_var e)
    have vll : ∀ σ : L2.St, σ[2]? = some (some (.ref pl)) → Val (tCB (fun xs H Q => ∃ p ys, xs = [.ref p] ∧ (SqL K H p ys ∨ SqT K H p ys) ∧ Q (.int ys.length) H) (tCons (tVar 2) tNil)) σ H (.int ml) := fun σ e => Val.to (v_lenL (SqL.of g1) (val_var e)) (by rw [List.length_map, gl, hml])
    obtain ⟨x, hx⟩ : ∃ x : Nat, n / 8 % m = (x : Int) := ⟨(n / 8 % m).toNat, by have := Int.emod_nonneg (n / 8) (show m ≠ 0 by omega); omega⟩
    obtain ⟨y, hy⟩ : ∃ y : Nat, (n / 8 + 1 + n / 96 % (m - 1)) % m = (y : Int) := ⟨((n / 8 + 1 + n / 96 % (m - 1)) % m).toNat, by have := Int.emod_nonneg (n / 8 + 1 + n / 96 % (m - 1)) (show m ≠ 0 by omega); omega⟩
    have xl : x < D.N.names.length := by have := Int.emod_lt_of_pos (n / 8) (show 0 < m by omega); omega
    have yl : y < D.N.names.length := by have := Int.emod_lt_of_pos (n / 8 + 1 + n / 96 % (m - 1)) (show 0 < m by omega); omega
    have xy : x ≠ y := fun e => two_apart (n := n) (m := m) (by omega) (by rw [hx, hy, e])
    obtain ⟨h, hh⟩ := at_of_lt xl
    obtain ⟨g, hg⟩ := at_of_lt yl
    have hne : h ≠ g := fun e => by
      have nd := List.pairwise_iff_getElem.mp nok.nd
      have e1 := (List.getElem?_eq_some_iff.mp hh).2
      have e2 := (List.getElem?_eq_some_iff.mp hg).2
      rcases Nat.lt_or_gt_of_ne xy with q | q
      · exact nd x y xl yl q (by rw [e1, e2, e])
      · exact nd y x yl xl q (by rw [e1, e2, e])
    have mh := List.mem_of_getElem? hh
    have mg' := List.mem_of_getElem? hg
    obtain ⟨r, hr2⟩ : ∃ r : Nat, n / 4096 % ml = (r : Int) := ⟨(n / 4096 % ml).toNat, by have := Int.emod_nonneg (n / 4096) (show ml ≠ 0 by omega); omega⟩
    have rl : r < D.N.lines.length := by have := Int.emod_lt_of_pos (n / 4096) (show 0 < ml by omega); omega
    obtain ⟨l, hl⟩ := at_of_lt rl
    obtain ⟨wh, hwh⟩ : ∃ wh : Int, n / 40960 % 6 = wh := ⟨_, rfl⟩
    refine sq_seq (st_set (v := .str h) (v_ixL (i := (x : Int)) (SqL.of hz) (val_var rfl) (Val.to (v_mod (v_fdiv (i := n) (val_var rfl) val_c ⟨by decide, by decide⟩) (vlen _ rfl) (by omega)) (congrArg V.int hx)) (atI_nat (map_at V.str hh))) ?_)
    refine sq_set (v := .str g) (v_ixL (i := (y : Int)) (SqL.of hz) (val_var rfl) (Val.to (v_mod (v_add (v_add (v_fdiv (i := n) (val_var rfl) val_c ⟨by decide, by decide⟩) val_c) (v_mod (v_fdiv (i := n) (val_var rfl) val_c ⟨by decide, by decide⟩) (v_sub (vlen _ rfl) val_c) (by omega))) (vlen _ rfl) (by omega)) (congrArg V.int hy)) (atI_nat (map_at V.str hg))) ?_
    refine sq_set (Val.to (x := nat r) (v_mod (v_fdiv (i := n) (val_var rfl) val_c ⟨by decide, by decide⟩) (vll _ rfl) (by omega)) (congrArg V.int hr2)) ?_
    refine sq_set (Val.to (v_mod (v_fdiv (i := n) (val_var rfl) val_c ⟨by decide, by decide⟩) val_c (by decide)) (congrArg V.int hwh)) ?_
    have dn : ∀ {a : Int} {b : Int}, a ≠ b → decide (V.int a = V.int b) = false := fun h => decide_eq_false fun e => h (V.int.inj e)
    by_cases w0 : wh = 0
    · refine sq_seq (st_yes (Ans.to (ans_test (v_eq (x := .int wh) (val_var rfl) val_c rfl)) (decide_eq_true (congrArg V.int w0))) ?_)
      refine lst_go (cons_go _ val_c (cons_go (nat r) (val_var rfl) ?_))
      refine ⟨_, rfl, p, A.dx, _, rfl, d.po, ln_Day_shut, _, rfl, p, A, D, r, l, rfl, d, hl, by omega, fun H' O d' => ⟨by show 3 ≤ sizeLine; decide, fun q hq => ?_⟩⟩
      have s := Same.new (o := .lst [.str "shut", nat r, .non]) hq
      exact k _ q (.shut r) D.kt tf (O.trans (Own.of s)) (d'.mono s) rep tok (Nat.le_succ _) ⟨_, upd_same⟩
    refine sq_no (Ans.to (ans_test (v_eq (x := .int wh) (val_var rfl) val_c rfl)) (dn w0)) ?_
    by_cases w1 : wh = 1
    · refine sq_seq (st_yes (Ans.to (ans_test (v_eq (x := .int wh) (val_var rfl) val_c rfl)) (decide_eq_true (congrArg V.int w1))) ?_)
      refine lst_go (cons_go _ val_c (cons_go (nat r) (val_var rfl) ?_))
      refine ⟨_, rfl, p, A.dx, _, rfl, d.po, ln_Day_reopen, _, rfl, p, A, D, r, l, rfl, d, hl, fun H' O d' => ⟨by show 3 ≤ sizeLine; decide, fun q hq => ?_⟩⟩
      have s := Same.new (o := .lst [.str "reopen", nat r, .non]) hq
      exact k _ q (.reopen r) D.kt tf (O.trans (Own.of s)) (d'.mono s) rep tok (Nat.le_succ _) ⟨_, upd_same⟩
    refine sq_no (Ans.to (ans_test (v_eq (x := .int wh) (val_var rfl) val_c rfl)) (dn w1)) ?_
    -- mine
    refine ⟨_, rfl, pl, _, rfl, .inl (SqL.of g1), ml, (by rw [List.length_map, gl, hml]), by omega, by omega, fun D8 hD8 => ?_⟩
    have eml : ml.toNat = D.N.lines.length := by omega
    refine lc_range (lo := 0) (n := ml.toNat) (fun i H' => Same H H' ∧ H' D8 = some (.lst ((outOf D.N.lines h i).map nat))) ⟨Same.new hD8, upd_same⟩ ?_ ?_
    · rintro i H1 hi ⟨s, d8⟩
      rw [eml] at hi
      obtain ⟨li, hli⟩ := at_of_lt hi
      obtain ⟨a, ha, pa⟩ := Paired.at_r g2 hli
      refine ⟨rfl, ?_⟩
      rw [Int.zero_add]
      refine (ans_test (v_eq (x := .str li.fr) (y := .str h) (v_ixTn (j := 0) (SqT.of (s _ _ pa)) (v_ixL (i := (i : Int)) (SqL.of (s _ _ g1)) (val_var rfl) (val_var rfl) (atI_nat (refs_at ha))) rfl) (val_var rfl) rfl)) _ ?_
      rw [outOf_succ hli]
      by_cases e : li.fr = h
      · rw [decide_eq_true (congrArg V.str e), if_pos e]
        refine ⟨_, rfl, _, d8, sz_lt (by rw [List.length_map]; have := outOf_len D.N.lines h i; omega), s.mut hD8, ?_⟩
        rw [upd_same, List.map_append]
        rfl
      · rw [decide_eq_false (fun z' => e (V.str.inj z')), if_neg e]
        exact iteF ⟨s, d8⟩
    · rintro H1 ⟨s1, d8⟩
      rw [eml] at d8
      obtain ⟨mine, hmine⟩ : ∃ mine, mine = outOf D.N.lines h D.N.lines.length := ⟨_, rfl⟩
      rw [← hmine] at d8
      have d1 := d.mono s1
      have drop : ∀ H2, Same H1 H2 → tRet (tLst (tCons (tC (.str "way")) (tCons (tTup (tCons (tVar 4) (tCons (tVar 5) tNil))) (tCons (tC .non) (tCons (tMeth c.day "drop_way" (spDayDropWay c) [] C8.E0 (tVar 0) (tCons (tVar 4) (tCons (tVar 5) tNil))) tNil))))) { nx := fun _ H' => Q .non H', rt := Q } [some (.ref p), some (.ref pz), some (.ref pl), some (.int n), some (.str h), some (.str g), some (nat r), some (.int wh), some (.ref D8), none] H2 := fun H2 s2 => by
        have d2 := d1.mono s2
        refine lst_go (cons_go _ val_c ?_)
        refine ⟨_, rfl, _, rfl, (by show 2 ≤ sizeLine; decide), fun u hu' => ?_⟩
        have s3 : Same H2 (upd H2 u (.tup [.str h, .str g])) := Same.new hu'
        generalize upd H2 u (.tup [.str h, .str g]) = H3 at s3 ⊢
        have d3 := d2.mono s3
        refine ⟨_, rfl, p, A.dx, _, rfl, d3.po, ln_Day_drop_way, _, rfl, _, rfl, p, A, D, h, g, rfl, d3, mh, mg', hne, fun H' kt O d' q' => ⟨by show 4 ≤ sizeLine; decide, fun q hq => ?_⟩⟩
        have s := Same.new (o := .lst [.str "way", .ref u, .non, .non]) hq
        refine k _ q .way kt (putT tf h g none) (((Own.of (s1.trans (s2.trans s3))).trans O).trans (Own.of s)) (d'.mono s) ?_ tok.drop ?_ ⟨_, upd_same⟩
        · rcases q' with q' | ⟨q', v⟩
          · rw [q']
            exact rep.drop h g
          · rw [q']
            exact rep.dropped v
        · rcases q' with q' | ⟨q', v⟩
          · rw [q']
            exact Nat.le_succ_of_le (dropK_le' _ _)
          · rw [q']
            exact Nat.le_succ _
      by_cases w2 : wh = 2
      · refine sq_seq (st_yes (ans_or1 (Ans.to (ans_test (v_eq (x := .int wh) (val_var rfl) val_c rfl)) (decide_eq_true (congrArg V.int w2)))) ?_)
        exact drop H1 (Same.refl _)
      refine sq_or (σ := [some (.ref p), some (.ref pz), some (.ref pl), some (.int n), some (.str h), some (.str g), some (nat r), some (.int wh), some (.ref D8), none]) (Ans.to (ans_test (v_eq (x := .int wh) (val_var rfl) val_c rfl)) (dn w2)) ?_
      refine ⟨_, rfl, (by show 0 ≤ sizeLine; decide), fun l0 hl0 => ?_⟩
      have s2 : Same H1 (upd H1 l0 (.lst [])) := Same.new hl0
      have e2 : (upd H1 l0 (.lst [])) l0 = some (.lst []) := upd_same
      generalize upd H1 l0 (.lst []) = H2 at s2 e2 ⊢
      have d82 := s2 _ _ d8
      have dm : Dp K H2 (.ref D8) (.list ((mine.map fun n : Nat => (n : Int)).map PyData.int)) := .lst (SqL.of d82) (by rw [nat_int]; exact dp_ints _)
      refine ⟨_, .list [], dm, .lst (SqL.of e2) .nil, shaped_of (lay_ints _) (by decide), shaped_of lay_nil (by decide), ?_⟩
      cases hm2 : mine with
      | nil =>
        exact ⟨true, rfl, iteT (drop H2 s2)⟩
      | cons a0 rest =>
        refine ⟨false, rfl, iteF ?_⟩
        rw [hm2] at d82
        have ml1 : mine.length = rest.length + 1 := by rw [hm2] <;> rfl
        obtain ⟨j, hj⟩ : ∃ j : Nat, n / 4096 % (mine.length : Int) = (j : Int) := ⟨(n / 4096 % (mine.length : Int)).toNat, by have := Int.emod_nonneg (n / 4096) (show (mine.length : Int) ≠ 0 by omega); omega⟩
        have jl : j < mine.length := by have := Int.emod_lt_of_pos (n / 4096) (show 0 < (mine.length : Int) by omega); omega
        obtain ⟨r', hr'⟩ := at_of_lt jl
        have mem := List.mem_of_getElem? hr'
        rw [hmine] at mem
        obtain ⟨_, l', hl', hf'⟩ := mem_outOf.mp mem
        rw [← hm2] at d82
        refine sq_set (v := nat r') (v_ixL (i := (j : Int)) (SqL.of d82) (val_var rfl) (Val.to (v_mod (v_fdiv (i := n) (val_var rfl) val_c ⟨by decide, by decide⟩) (Val.to (v_lenL (SqL.of d82) (val_var rfl)) (by rw [List.length_map])) (by omega)) (congrArg V.int hj)) (atI_nat (map_at nat hr'))) ?_
        have d2 := d1.mono s2
        refine lst_go (cons_go _ val_c ?_)
        refine ⟨_, rfl, _, rfl, (by show 2 ≤ sizeLine; decide), fun u hu' => ?_⟩
        have s3 : Same H2 (upd H2 u (.tup [.str h, .str g])) := Same.new hu'
        generalize upd H2 u (.tup [.str h, .str g]) = H3 at s3 ⊢
        have d3 := d2.mono s3
        refine ⟨_, rfl, _, rfl, p, A.dx, _, rfl, d3.po, ln_Day_set_way, _, rfl, _, rfl, _, rfl, p, A, D, h, g, r', l', rfl, d3, by omega, lfew, mh, mg', hne, hl', hf', fun H' O d' => ⟨by show 4 ≤ sizeLine; decide, fun q hq => ?_⟩⟩
        have s := Same.new (o := .lst [.str "way", .ref u, nat r', .non]) hq
        exact k _ q .way _ (putT tf h g (some r')) (((Own.of (s1.trans (s2.trans s3))).trans O).trans (Own.of s)) (d'.mono s) (rep.put h g r') (tok.put hl' hf') (length_putK _ _ _) ⟨_, upd_same⟩
end
end PR
set_option Elab.async false
set_option maxRecDepth 100000
set_option linter.all false
set_option maxHeartbeats 400000
/-! Short words for the law itself. -/
namespace PR
open PySem PySem.Spec PyProof.Rows L2
theorem DayAt.mutL {c : Cs} {H H' : Hp} {p q : Addr} {A : Da} {D : Dy} (d : DayAt c H p A D) (hq : A.G q = none) (n : ¬ Mut A p q) (k : ∀ b o, H b = some o → b ≠ q → H' b = some o) : DayAt c H' p A D := by
  obtain ⟨as, h1, h2⟩ := d.stood
  obtain ⟨qs, g1, g2⟩ := d.gone
  exact ⟨fun b o e => k b o (d.same b o e) (fun z => by rw [z, hq] at e; cases e), d.un, d.nod, k _ _ d.po fun z => n (.inl z.symm), d.net, d.ways, k _ _ d.told fun z => n (.inr (.inl z.symm)), d.post, ⟨as, k _ _ h1 fun z => n (.inr (.inr (.inl z.symm))), h2⟩, k _ _ d.closed fun z => n (.inr (.inr (.inr (.inl z.symm)))), ⟨qs, k _ _ g1 fun z => n (.inr (.inr (.inr (.inr z.symm)))), g2⟩, d.ne⟩
theorem mut_known {c : Cs} {H : Hp} {p : Addr} {A : Da} {D : Dy} (d : DayAt c H p A D) {b : Addr} (m : Mut A p b) : H b ≠ none := by
  obtain ⟨as, h1, _⟩ := d.stood
  obtain ⟨qs, h2, _⟩ := d.gone
  intro h
  rcases m with e | e | e | e | e
  · rw [e, d.po] at h; cases h
  · rw [e, d.told] at h; cases h
  · rw [e, h1] at h; cases h
  · rw [e, d.closed] at h; cases h
  · rw [e, h2] at h; cases h
theorem one_apart {n m : Int} (hm : 2 ≤ m) : n % m ≠ (n + 1) % m := fun e => by
  have e1 := (Int.emod_eq_emod_iff_emod_sub_eq_zero).mp e.symm
  have e2 : n + 1 - n = 1 := by omega
  rw [e2, Int.emod_eq_of_lt (by omega) (by omega)] at e1
  omega
theorem rng_go {ta : TE} {σ : L2.St} {H : Hp} {R : It → Hp → Prop} {j : Int} (hv : Val ta σ H (.int j)) (b1 : -(2 ^ 62) ≤ j) (b2 : j < 2 ^ 62) (q : R (Itr 0 j.toNat) H) : iRng1 (tCons ta tNil) σ H R := hv _ ⟨j, rfl, b1, b2, q⟩
theorem and_go {t u : TT} {σ : L2.St} {H : Hp} {Q : Bool → Hp → Prop} (h : Ans t σ H true) (q : u σ H Q) : tAnd t u σ H Q := h _ (iteT q)
theorem and_no {t u : TT} {σ : L2.St} {H : Hp} {Q : Bool → Hp → Prop} (h : Ans t σ H false) (q : Q false H) : tAnd t u σ H Q := h _ (iteF q)
def bagD (b : Bg) : PyData := .tuple [.int b.tn, .int (b.rd : Int), .tuple ((b.ns.map fun n : Nat => (n : Int)).map PyData.int)]
theorem bag_dp {K : PySem.W.Frag} {H : Hp} {a : Addr} {b : Bg} (h : BgAt H a b) : Dp K H (.ref a) (bagD b) := by
  obtain ⟨q, e1, e2⟩ := h
  exact .tup (SqT.of e1) (.cons (.int _) (.cons (.int _) (.cons (.tup (SqT.of e2) (by rw [nat_int]; exact dp_ints _)) .nil)))
theorem lay_bag (b : Bg) : (bagD b).canLay0 = true ∧ (bagD b).depth ≤ 2 := lay_tuple (n := 1) fun d hd => by
  have i : ∀ i : Int, (PyData.int i).canLay0 = true ∧ (PyData.int i).depth ≤ 1 := fun i => ⟨by simp [PyData.canLay0], by simp [PyData.depth]⟩
  simp only [List.mem_cons, List.not_mem_nil, or_false] at hd
  rcases hd with rfl | rfl | rfl
  · exact i _
  · exact i _
  · exact lay_tints _
theorem bags_dp {K : PySem.W.Frag} {H : Hp} : ∀ {qs : List Addr} {bs : List Bg}, Paired (BgAt H) qs bs → DpAll K H (qs.map V.ref) (bs.map bagD)
  | _, _, .nil => .nil
  | _, _, .cons h r => .cons (bag_dp h) (bags_dp r)
theorem lay_log (bs : List Bg) : (PyData.list (bs.map bagD)).canLay0 = true ∧ (PyData.list (bs.map bagD)).depth ≤ 3 := lay_list (n := 2) fun d hd => by
  obtain ⟨b, _, rfl⟩ := List.mem_map.mp hd
  exact lay_bag b
theorem lay_logN (bs : List Bg) : (PyData.list (bs.map bagD ++ [.none])).canLay0 = true ∧ (PyData.list (bs.map bagD ++ [.none])).depth ≤ 3 := lay_list (n := 2) fun d hd => by
  rcases List.mem_append.mp hd with hd | hd
  · obtain ⟨b, _, rfl⟩ := List.mem_map.mp hd
    exact lay_bag b
  · rw [List.mem_singleton.mp hd]
    exact ⟨by simp [PyData.canLay0], by simp [PyData.depth]⟩
theorem dpAll_app {K : PySem.W.Frag} {H : Hp} : ∀ {vs ws : List V} {ds es : List PyData}, DpAll K H vs ds → DpAll K H ws es → DpAll K H (vs ++ ws) (ds ++ es)
  | _, _, _, _, .nil, h => h
  | _, _, _, _, .cons a r, h => .cons a (dpAll_app r h)
theorem tolds_dp {K : PySem.W.Frag} {H : Hp} : ∀ {ls : List Addr} {sps : List Spt}, Paired (fun l sp => H l = some (.lst (toldV sp))) ls sps → DpAll K H (ls.map V.ref) (sps.map toldD)
  | _, _, .nil => .nil
  | _, _, .cons h r => .cons (told_dp h) (tolds_dp r)
theorem lay_tolds {sps : List Spt} (h : ∀ sp ∈ sps, SptStr sp) : (PyData.list (sps.map toldD)).canLay0 = true ∧ (PyData.list (sps.map toldD)).depth ≤ 2 := lay_list (n := 1) fun d hd => by
  obtain ⟨sp, hs, rfl⟩ := List.mem_map.mp hd
  exact lay_told (h sp hs)
theorem dues_take {lts : List Lt} {W : List Wc} {t : Int} {i : Nat} {lt : Lt} {r : Wc} (h1 : lts[i]? = some lt) (h2 : W[i]? = some r) : dues (lts.take (i + 1)) (W.take (i + 1)) t = dues (lts.take i) (W.take i) t ++ [dueS lt r t] := by
  have l1 := lt_of_at h1
  have l2 := lt_of_at h2
  unfold dues
  rw [take_snoc h1, take_snoc h2, List.zip_append (by rw [List.length_take, List.length_take]; omega), List.map_append]
  rfl
theorem dues_len {lts : List Lt} {W : List Wc} {t : Int} (h : W.length = lts.length) : (dues lts W t).length = lts.length := by
  unfold dues
  rw [List.length_map, List.length_zip, h, Nat.min_self]
theorem Good.strs {first : Int} {D : Dy} {kst : List (List Key × V)} (g : Good first D kst) (ok : NtOk D.N) : ∀ sp ∈ dues D.lts (runW D.N (w0 D.lts) D.bs) D.tn, SptStr sp := fun sp hs => by
  obtain ⟨n, hn⟩ := List.mem_iff_getElem?.mp hs
  have ln := lt_of_at hn
  rw [dues_len g.rel.lw] at ln
  obtain ⟨lt, h1⟩ := at_of_lt ln
  obtain ⟨r, h2⟩ := at_of_lt (show n < (runW D.N (w0 D.lts) D.bs).length by rw [g.rel.lw]; exact ln)
  rw [dues_at h1 h2] at hn
  cases hn
  exact g.str ok h1 h2
section
variable {K : PySem.W.Frag} {σ : L2.St} {H : Hp} {ta tb tc td : TE}
theorem v_chain3 {i j k l : Int} (h1 : Val ta σ H (.int i)) (h2 : Val tb σ H (.int j)) (h3 : Val tc σ H (.int k)) (h4 : Val td σ H (.int l)) (e1 : i ≤ j) (e2 : j ≤ k) (e3 : k < l) :
    Val (tChain3 (rI0 fun i j => .bl (decide (i ≤ j))) (rI0 fun i j => .bl (decide (i ≤ j))) (rI0 fun i j => .bl (decide (i < j))) ta tb tc td) σ H (.bl true) := by
  intro Q q
  refine h1 _ ?_
  refine h2 _ ?_
  refine ⟨i, j, rfl, rfl, true, congrArg V.bl (decide_eq_true e1), ?_⟩
  refine iteT ?_
  refine h3 _ ?_
  refine ⟨j, k, rfl, rfl, true, congrArg V.bl (decide_eq_true e2), ?_⟩
  refine iteT ?_
  refine h4 _ ?_
  refine ⟨k, l, rfl, rfl, ?_⟩
  show Q (.bl (decide (k < l))) H
  rw [decide_eq_true e3]
  exact q
end
/-- the log's first and last turns -/
theorem sq_log {K : PySem.W.Frag} {D : Ends} {σ : L2.St} {H : Hp} {t1 rest : TS} {ps pg : Addr} {qs : List Addr} {bs : List Bg} {first now : Int} (e15 : σ[15]? = some (some (.ref ps))) (e13 : σ[13]? = some (some (.ref pg))) (e6 : σ[6]? = some (some (.int first))) (e12 : σ[12]? = some (some (.int now)))
    (h1 : H pg = some (.lst (qs.map V.ref))) (h2 : Paired (BgAt H) qs bs) (ord : bs.Pairwise Bef) (turns : ∀ b ∈ bs, first ≤ b.tn ∧ b.tn < now) (h : ∀ H2, Same H H2 → rest D σ H2) :
    tSeq (tIfS (tOr (tTest (tOp (fun x y H Q => y = .non ∧ Q (.bl (decide (x = .non))) H) (tVar 15) (tC .non))) (tAnd (tTest (tOp (rNeD K) (tVar 13) (tLst tNil))) (tNot (tTest (tChain3 (rI0 fun i j => .bl (decide (i ≤ j))) (rI0 fun i j => .bl (decide (i ≤ j))) (rI0 fun i j => .bl (decide (i < j)))
      (tVar 6) (tOp (rIxT K) (tOp (rIxL K) (tVar 13) (tC (.int 0))) (tC (.int 0))) (tOp (rIxT K) (tOp (rIxL K) (tVar 13) (tOp (rI0 fun i j => .int (i - j)) (tCB (fun xs H Q => ∃ p ys, xs = [.ref p] ∧ (SqL K H p ys ∨ SqT K H p ys) ∧ Q (.int ys.length) H) (tCons (tVar 13) tNil)) (tC (.int 1)))) (tC (.int 0))) (tVar 12)))))) t1 tNext) rest D σ H := by
  refine sq_or (Ans.to (ans_test (v_isN (val_var e15))) rfl) ?_
  refine ⟨_, e13, (by show 0 ≤ sizeLine; decide), fun l0 hl0 => ?_⟩
  have s1 : Same H (upd H l0 (.lst [])) := Same.new hl0
  have x1 : (upd H l0 (.lst [])) l0 = some (.lst []) := upd_same
  generalize upd H l0 (.lst []) = H1 at s1 x1 ⊢
  have h1' := s1 _ _ h1
  have h2' : Paired (BgAt H1) qs bs := L2.Paired.mapP h2 fun _ _ => BgAt.mono s1
  have dp : Dp K H1 (.ref pg) (.list (bs.map bagD)) := .lst (SqL.of h1') (bags_dp h2')
  refine ⟨_, .list [], dp, .lst (SqL.of x1) .nil, shaped_of (lay_log bs) (by decide), shaped_of lay_nil (by decide), ?_⟩
  cases hb : bs with
  | nil => exact ⟨false, rfl, iteF (iteF (h H1 s1))⟩
  | cons b0 rest' =>
    refine ⟨true, rfl, iteT ?_⟩
    have ql := h2'.length
    have n0 : 0 < bs.length := by rw [hb]; exact Nat.succ_pos _
    obtain ⟨b, hb0⟩ := at_of_lt n0
    obtain ⟨b', hbl⟩ := at_of_lt (show bs.length - 1 < bs.length by omega)
    obtain ⟨a, ha, pa⟩ := Paired.at_r h2' hb0
    obtain ⟨a', ha', pa'⟩ := Paired.at_r h2' hbl
    obtain ⟨q, c1, _⟩ := pa
    obtain ⟨q', c1', _⟩ := pa'
    have t0 := turns b (List.mem_of_getElem? hb0)
    have tl := turns b' (List.mem_of_getElem? hbl)
    have le : b.tn ≤ b'.tn := by
      by_cases z : bs.length - 1 = 0
      · rw [z, hb0] at hbl
        rw [Option.some.inj hbl]
        exact Int.le_refl _
      · have bef := List.pairwise_iff_getElem.mp ord 0 (bs.length - 1) n0 (lt_of_at hbl) (by omega)
        rw [(List.getElem?_eq_some_iff.mp hb0).2, (List.getElem?_eq_some_iff.mp hbl).2] at bef
        rcases bef with z | z <;> omega
    refine (Ans.to (b' := false) (ans_not (ans_test (v_chain3 (i := first) (j := b.tn) (k := b'.tn) (l := now) (val_var e6) (v_ixTn (j := 0) (SqT.of c1) (v_ixL (i := ((0 : Nat) : Int)) (SqL.of h1') (val_var e13) val_c (atI_nat (refs_at ha))) rfl)
      (v_ixTn (j := 0) (SqT.of c1') (v_ixL (i := ((bs.length - 1 : Nat) : Int)) (SqL.of h1') (val_var e13) (Val.to (v_sub (j := 1) (v_lenL (SqL.of h1') (val_var e13)) val_c) (by rw [List.length_map, ql]; congr 1; omega)) (atI_nat (refs_at ha'))) rfl) (val_var e12) t0.1 le tl.2))) rfl) _ ?_
    exact iteF (h H1 s1)
theorem LawSt.addG {c : Cs} {G H : Hp} {p lc ls q : Addr} {A : Da} {D : Dy} {kst : List (List Key × V)} {first : Int} {a b : Nat} {o : HO} (L : LawSt c G H p lc ls A D kst first a b) (hq : H q = none) : LawSt c (upd G q o) (upd H q o) p lc ls A D kst first a b := by
  have M := L.mono (Same.new (o := o) hq)
  refine ⟨M.day, M.hc, M.hs, M.nc, M.ns, fun x u e => ?_, fun x m => ?_, ?_, ?_, M.good, M.nok, M.tf, M.kc, M.kt, M.ks, M.bs, M.few, M.keys⟩
  · by_cases z : x = q
    · rw [z, upd_same] at e ⊢
      exact e
    · rw [upd_ne z] at e ⊢
      exact L.gh x u e
  · have : x ≠ q := fun z => mut_known L.day (by rw [← z]; exact m) hq
    rw [upd_ne this]
    exact L.gm x m
  · rw [upd_ne (ne_of_none L.hc hq)]
    exact L.gc
  · rw [upd_ne (ne_of_none L.hs hq)]
    exact L.gs
end PR
set_option Elab.async false
set_option maxRecDepth 100000
set_option linter.all false
set_option maxHeartbeats 400000
/-! One step of the law's script. -/
namespace PR
open PySem PySem.Spec PyProof.Rows L2
theorem cut_ints (xs : List Int) : ∃ ys : List Int, cutV (xs.map V.int) (some 3) (some 43) = ys.map V.int ∧ ys.length ≤ 40 := by
  unfold cutV
  have e3 : HT.sIx (xs.map V.int).length 0 (some (3 : Int)) = min 3 (xs.map V.int).length := HT.sIx_nat _ _ 3
  have e43 : HT.sIx (xs.map V.int).length (xs.map V.int).length (some (43 : Int)) = min 43 (xs.map V.int).length := HT.sIx_nat _ _ 43
  rw [e3, e43]
  generalize (xs.map V.int).length = n
  refine ⟨(xs.drop (min 3 n)).take (min 43 n - min 3 n), by rw [List.map_take, List.map_drop], ?_⟩
  rw [List.length_take]
  omega
section
variable {K : PySem.W.Frag} {mg : Str → Option Value} {c : Cs} {G H : Hp} {p lc ls pl pz : Addr} {A : Da} {D : Dy} {kst : List (List Key × V)} {first : Int} {a b : Nat} {σ : L2.St} {D0 : Ends} {t1 : TS} {n : Int}
theorem st_right (e8 : σ[8]? = some (some (.ref p))) (e4 : σ[4]? = some (some (.ref pl))) (e10 : σ[10]? = some (some (.ref ls))) (e11 : σ[11]? = some (some (.int n))) (L : LawSt c G H p lc ls A D kst first a b) (hpl : LOf (LnAt G) G pl D.N.lines) (h : ∀ H2, Same H H2 → D0.nx σ H2) :
    tIfS (tAnd (tTest (tOp rEq (tOp (rI (fun _ j => 0 < j) fun i j => .int (i % j)) (tOp (rI CDiv fun i j => .int (i / j)) (tVar 11) (tC (.int 16))) (tC (.int 3))) (tC (.int 0)))) (tNot (tB (tCall (spRight c) [] C8.E0 (tCons (tVar 8) (tCons (tVar 4) (tCons (tVar 10) (tCons (tOp (rI CDiv fun i j => .int (i / j)) (tVar 11) (tC (.int 48))) tNil)))))))) t1 tNext D0 σ H := by
  refine (ans_test (v_eq (v_mod (v_fdiv (i := n) (j := 16) (val_var e11) val_c ⟨by decide, by decide⟩) (val_c (v := .int 3)) (by decide)) (val_c (v := .int 0)) rfl)) _ ?_
  cases decide (V.int (n / 16 % 3) = V.int 0) with
  | false => exact iteF (iteF (h H (Same.refl _)))
  | true =>
    refine iteT ?_
    refine ⟨_, e8, _, e4, _, e10, ?_⟩
    refine (v_fdiv (i := n) (j := 48) (val_var e11) val_c ⟨by decide, by decide⟩ : Val (tOp (rI CDiv fun i j => .int (i / j)) (tVar 11) (tC (.int 48))) σ H (.int (n / 48))) _ ?_
    exact ⟨p, lc, ls, pl, G, A, D, kst, first, a, b, n / 48, rfl, L, hpl, fun H' s => ⟨true, rfl, iteF (h H' s)⟩⟩
theorem st_change (e8 : σ[8]? = some (some (.ref p))) (e1 : σ[1]? = some (some (.ref pz))) (e4 : σ[4]? = some (some (.ref pl))) (e9 : σ[9]? = some (some (.ref lc))) (e11 : σ[11]? = some (some (.int n))) (L : LawSt c G H p lc ls A D kst first a b)
    (hz : G pz = some (.lst (D.N.names.map V.str))) (hpl : LOf (LnAt G) G pl D.N.lines) (z2 : 2 ≤ D.N.names.length) (l1 : 1 ≤ D.N.lines.length) (a100 : a ≤ 100) (h : ∀ H2 A2 D2 kst2, LawSt c G H2 p lc ls A2 D2 kst2 first (a + 1) b → D2.N = D.N → D0.nx σ H2) :
    tDrop (tCall spNoted [] C8.E0 (tCons (tCall (spChange c) [] C8.E0 (tCons (tVar 8) (tCons (tVar 1) (tCons (tVar 4) (tCons (tOp (rI CDiv fun i j => .int (i / j)) (tVar 11) (tC (.int 8))) tNil))))) (tCons (tVar 9) tNil))) D0 σ H := by
  refine ⟨_, e8, _, e1, _, e4, ?_⟩
  refine (v_fdiv (i := n) (j := 8) (val_var e11) val_c ⟨by decide, by decide⟩ : Val (tOp (rI CDiv fun i j => .int (i / j)) (tVar 11) (tC (.int 8))) σ H (.int (n / 8))) _ ?_
  obtain ⟨tf, rep, tok⟩ := L.tf
  have hkt := L.kt
  have hkc := L.kc
  refine ⟨p, pz, pl, A, D, tf, n / 8, rfl, L.day, L.gh _ _ hz, hpl.mono L.gh (fun _ _ => LnAt.mono L.gh), rep, tok, L.nok, z2, l1, by omega, by omega, fun H1 q dd kt tf' O d1 rep' tok' lkt hq => ?_⟩
  obtain ⟨c1, c2, c3, c4, c5, c6⟩ := L.own O
  refine ⟨_, e9, q, lc, dd, D.kc, rfl, hq, c1, by omega, fun H2 k2 x2 => ?_⟩
  have d2 := d1.keepD c1 rfl c3 k2
  have lsc : ls ≠ lc := ne_of c2 c1 (by intro z; cases z)
  refine h H2 A _ kst ⟨d2, x2, k2 _ _ c2 lsc, c3, c4, fun x o e => k2 x o (c5 x o e) (fun z => by rw [z, L.gc] at e; cases e), c6, L.gc, L.gs, ?_, L.nok, ⟨tf', rep', tok'⟩, ?_, ?_, L.ks, L.bs, L.few, ?_⟩ rfl
  · exact ⟨L.good.len, L.good.lets, L.good.log, L.good.ord, L.good.turns, L.good.rel, L.good.shut, L.good.spo, L.good.fi⟩
  · show (noteK D.kc dd).length ≤ a + 1
    cases dd with
    | shut r =>
      have := length_putK D.kc (Sum.inl (r : Int)) (.bl true)
      show (putK D.kc (Sum.inl (r : Int)) (.bl true)).length ≤ _
      omega
    | reopen r =>
      have := dropK_le' D.kc (Sum.inl (r : Int) : Key)
      show (dropK D.kc (Sum.inl (r : Int))).length ≤ _
      omega
    | way =>
      show D.kc.length ≤ _
      omega
  · show kt.length ≤ 144 + (a + 1)
    omega
  · intro kv hkv
    have hkv : kv ∈ noteK D.kc dd := hkv
    cases dd with
    | shut r =>
      rcases mem_putK hkv with e | m
      · exact ⟨_, e⟩
      · exact L.keys kv m
    | reopen r => exact L.keys kv (List.mem_filter.mp hkv).1
    | way => exact L.keys kv hkv
theorem st_post (e8 : σ[8]? = some (some (.ref p))) (e1 : σ[1]? = some (some (.ref pz))) (e11 : σ[11]? = some (some (.int n))) (L : LawSt c G H p lc ls A D kst first a b)
    (hz : G pz = some (.lst (D.N.names.map V.str))) (z2 : 2 ≤ D.N.names.length) (f0 : 0 ≤ first) (f1 : first + 100 ≤ 1000000000) (few : D.lts.length < 12) (t30 : D.tn - first ≤ 30) (h : ∀ H2 A2 D2, LawSt c G H2 p lc ls A2 D2 kst first a b → D2.N = D.N → D0.nx σ H2) :
    tDrop (tMeth c.day "post" (spPost c) [] C8.E0 (tVar 8) (tCons (tOp (rIxL K) (tVar 1) (tOp (rI (fun _ j => 0 < j) fun i j => .int (i % j)) (tOp (rI CDiv fun i j => .int (i / j)) (tVar 11) (tC (.int 8))) (tCB (fun xs H Q => ∃ p ys, xs = [.ref p] ∧ (SqL K H p ys ∨ SqT K H p ys) ∧ Q (.int ys.length) H) (tCons (tVar 1) tNil))))
      (tCons (tOp (rIxL K) (tVar 1) (tOp (rI (fun _ j => 0 < j) fun i j => .int (i % j)) (tOp (rI0 fun i j => .int (i + j)) (tOp (rI CDiv fun i j => .int (i / j)) (tVar 11) (tC (.int 8))) (tC (.int 1))) (tCB (fun xs H Q => ∃ p ys, xs = [.ref p] ∧ (SqL K H p ys ∨ SqT K H p ys) ∧ Q (.int ys.length) H) (tCons (tVar 1) tNil)))) tNil))) D0 σ H := by
  have hz' := L.gh _ _ hz
  obtain ⟨m, hm⟩ : ∃ m : Int, m = (D.N.names.length : Int) := ⟨_, rfl⟩
  have vlen : Val (tCB (fun xs H Q => ∃ p ys, xs = [.ref p] ∧ (SqL K H p ys ∨ SqT K H p ys) ∧ Q (.int ys.length) H) (tCons (tVar 1) tNil)) σ H (.int m) := Val.to (v_lenL (SqL.of hz') (val_var e1)) (by rw [List.length_map, hm])
  obtain ⟨x, hx⟩ : ∃ x : Nat, n / 8 % m = (x : Int) := ⟨(n / 8 % m).toNat, by have := Int.emod_nonneg (n / 8) (show m ≠ 0 by omega); omega⟩
  obtain ⟨y, hy⟩ : ∃ y : Nat, (n / 8 + 1) % m = (y : Int) := ⟨((n / 8 + 1) % m).toNat, by have := Int.emod_nonneg (n / 8 + 1) (show m ≠ 0 by omega); omega⟩
  have xl : x < D.N.names.length := by have := Int.emod_lt_of_pos (n / 8) (show 0 < m by omega); omega
  have yl : y < D.N.names.length := by have := Int.emod_lt_of_pos (n / 8 + 1) (show 0 < m by omega); omega
  have xy : x ≠ y := fun e => one_apart (n := n / 8) (m := m) (by omega) (by rw [hx, hy, e])
  obtain ⟨hh, hh1⟩ := at_of_lt xl
  obtain ⟨gg, gg1⟩ := at_of_lt yl
  have hne : hh ≠ gg := fun e => by
    have nd := List.pairwise_iff_getElem.mp L.nok.nd
    have e1 := (List.getElem?_eq_some_iff.mp hh1).2
    have e2 := (List.getElem?_eq_some_iff.mp gg1).2
    rcases Nat.lt_or_gt_of_ne xy with q | q
    · exact nd x y xl yl q (by rw [e1, e2, e])
    · exact nd y x yl xl q (by rw [e1, e2, e])
  have good := L.good
  have fi := good.fi
  refine ⟨_, e8, p, A.dx, _, rfl, L.day.po, ln_Day_post, ?_⟩
  refine cons_go (.str hh) (v_ixL (i := (x : Int)) (SqL.of hz') (val_var e1) (Val.to (v_mod (v_fdiv (i := n) (val_var e11) val_c ⟨by decide, by decide⟩) vlen (by omega)) (congrArg V.int hx)) (atI_nat (map_at V.str hh1))) (cons_go (.str gg) (v_ixL (i := (y : Int)) (SqL.of hz') (val_var e1) (Val.to (v_mod (v_add (v_fdiv (i := n) (val_var e11) val_c ⟨by decide, by decide⟩) val_c) vlen (by omega)) (congrArg V.int hy)) (atI_nat (map_at V.str gg1))) ?_)
  have ok : LtOk D.N ⟨hh, D.tn, gg⟩ := ⟨List.mem_of_getElem? hh1, List.mem_of_getElem? gg1, hne, by show 0 ≤ D.tn ∧ D.tn ≤ 1000000000; omega⟩
  have len := good.len
  refine ⟨p, A, D, hh, gg, rfl, L.day, by omega, fun t ht => ?_, fun t ht => ?_, fun t ht u hu => ?_, by omega, fun H1 A1 v O d1 => ?_⟩
  · rcases List.mem_append.mp ht with ht | ht
    · exact (good.lets t ht).1
    · rw [List.mem_singleton.mp ht]
      exact ok
  · obtain ⟨_, q1, q2, q3⟩ := good.lets t ht
    omega
  · obtain ⟨_, q1, q2, q3⟩ := good.lets t ht
    obtain ⟨_, r1, r2, r3⟩ := good.lets u hu
    omega
  · obtain ⟨c1, c2, c3, c4, c5, c6⟩ := L.own O
    refine h H1 A1 _ ⟨d1, c1, c2, c3, c4, c5, c6, L.gc, L.gs, good.post ok (by omega), L.nok, L.tf, L.kc, L.kt, L.ks, L.bs, ?_, L.keys⟩ rfl
    show (D.lts ++ [_]).length ≤ 12
    rw [List.length_append]
    simp only [List.length_cons, List.length_nil]
    omega
end
end PR
set_option Elab.async false
set_option maxRecDepth 100000
set_option linter.all false
set_option maxHeartbeats 1000000
/-! The law. -/
namespace PR
open PySem PySem.Spec PyProof.Rows L2
section
variable {P : Program} {w : World} {K : PySem.W.Frag} {mg : Str → Option Value} {base : Heap} {c : Cs}
theorem sq_asg {te : TE} {g : TG} {rest : TS} {D : Ends} {σ : L2.St} {H : Hp} (h : te σ H fun v H1 => g v σ H1 fun σ2 H2 => rest D σ2 H2) : tSeq (tAsg te g) rest D σ H := h
theorem nm_go {i : Nat} {v : V} {σ : L2.St} {H : Hp} {R : L2.St → Hp → Prop} (h : R (σ.set i (some v)) H) : gName i v σ H R := h
def spLaw (K : PySem.W.Frag) : Sp := fun vs H Q _ => ∃ (a : Addr) (xs : List Int), vs = [.ref a] ∧ SqL K H a (xs.map V.int) ∧ xs.length ≤ 100 ∧ ∀ H', Q (.bl true) H'
theorem ok_law (T : Txt K mg c) {f : Addr} {fd : FuncData} (F : Fun K "law" "law" s_law f fd) : FnOk P w K mg base CX0 8 f fd ["_law_script"] (spLaw K) := by
  refine F.ok sc_law (fun vs H Q E h => ?_) (fun cdv A outer s H vs Q E hr h => ?_)
  · obtain ⟨a, xs, rfl, _⟩ := h
    rfl
  · obtain ⟨a, xs, rfl, hS, few, k⟩ := h
    have hu := hu_of hr
    have T__law_houses := ok__law_houses (P := P) (w := w) (base := base) T
    have T__law_cell_at := ok__law_cell_at (P := P) (w := w) (base := base) T
    have T__law_road := ok__law_road (P := P) (w := w) (base := base) T
    have T_Net := ok_Net_init (P := P) (w := w) (base := base) T
    have T_Day := ok_Day_init (P := P) (w := w) (base := base) T
    have T__law_turns := ok__law_turns (P := P) (w := w) (base := base) T
    have T_Day_letters := ok_Day_letters (P := P) (w := w) (base := base) T
    have T_Day_now := ok_Day_now (P := P) (w := w) (base := base) T
    have T_Day_post := ok_Day_post (P := P) (w := w) (base := base) T
    have T__law_noted := ok__law_noted (P := P) (w := w) (base := base) T
    have T__law_change := ok__law_change (P := P) (w := w) (base := base) T
    have T__law_spot_right := ok__law_spot_right (P := P) (w := w) (base := base) T
    have T_Day_log := ok_Day_log (P := P) (w := w) (base := base) T
    have T__law_walked := ok__law_walked (P := P) (w := w) (base := base) T
    have T__law_due := ok__law_due (P := P) (w := w) (base := base) T
    have T_spots_at := ok_spots_at (P := P) (w := w) (base := base) T
    have T__law_told := ok__law_told (P := P) (w := w) (base := base) T
    have T__law_nobody := ok__law_nobody (P := P) (w := w) (base := base) T
    have T_Day_spot := ok_Day_spot (P := P) (w := w) (base := base) T
    refine ⟨_, (pss_cons (ps_set (i := 1) sc_law.nd rfl (Or.inr rfl) (C8.pe_c T__law_houses hr (by decide) rfl (pa_cons (C8.pe_c T__law_cell_at hr (by decide) rfl (pa_cons (pv 0) (pa_cons pe_int pa_nil))) (pa_cons (pe_op op_add pe_int (pe_op op_mod (C8.pe_c T__law_cell_at hr (by decide) rfl (pa_cons (pv 0) (pa_cons pe_int pa_nil))) pe_int)) pa_nil))))
  (pss_cons (ps_setLc (i := 2) (own := [("_law_k", 3)]) rfl sc_law.nd rfl rfl (sw_true rfl rfl rfl (by decide +kernel)) (pi_range1 rfl T.b_range (pa_cons (pe_op op_add pe_int (pe_op op_mod (pe_op op_fdiv (C8.pe_c T__law_cell_at hr (by decide) rfl (pa_cons (pv 0) (pa_cons pe_int pa_nil))) pe_int) pe_int)) pa_nil)) (blkOk_by (own := [("_law_k", 3)]) (N := N_law) (sc := defScope s_law) (by decide +kernel)) (fun _ _ _ _ _ => by exact (pg_name (i := 3) sc_law.nd rfl (Or.inl rfl))) (fun _ _ _ _ _ => by exact pts_nil) (fun _ _ _ _ _ => by exact (pe_op op_add (C8.pe_c T__law_cell_at hr (by decide) rfl (pa_cons (pv 0) (pa_cons (pe_op op_add pe_int (pv 3)) pa_nil))) (pe_op op_mul (pe_op op_mul pe_int (pv 3)) (pv 3)))))
  (pss_cons (ps_setLc (i := 4) (own := [("_law_cell", 5)]) rfl sc_law.nd rfl rfl (sw_true rfl rfl rfl (by decide +kernel)) (pi_list (pv 2)) (blkOk_by (own := [("_law_cell", 5)]) (N := N_law) (sc := defScope s_law) (by decide +kernel)) (fun _ _ _ _ _ => by exact (pg_name (i := 5) sc_law.nd rfl (Or.inl rfl))) (fun _ _ _ _ _ => by exact pts_nil) (fun _ _ _ _ _ => by exact (C8.pe_c T__law_road hr (by decide) rfl (pa_cons (pv 5) (pa_cons (pv 1) pa_nil)))))
  (pss_cons (ps_set (i := 6) sc_law.nd rfl (Or.inl rfl) (pe_op op_mod (C8.pe_c T__law_cell_at hr (by decide) rfl (pa_cons (pv 0) (pa_cons pe_int pa_nil))) (pe_op op_sub (pe_op op_pow pe_int pe_int) pe_int)))
  (pss_cons (ps_set (i := 7) sc_law.nd rfl (Or.inl rfl) (C8.pe_mk T_Net hr (by decide) rfl (pa_cons (pv 1) (pa_cons (pv 4) pa_nil))))
  (pss_cons (ps_set (i := 8) sc_law.nd rfl (Or.inr rfl) (C8.pe_mk T_Day hr (by decide) rfl (pa_cons (pv 7) (pa_cons (pv 6) pa_nil))))
  (pss_cons (ps_set (i := 9) sc_law.nd rfl (Or.inl rfl) pe_dnewK)
  (pss_cons (ps_set (i := 10) sc_law.nd rfl (Or.inl rfl) pe_dnewT)
  (pss_cons (ps_for PassesOwn.never rfl (pi_list (pe_slice sl_list (pv 0) (po_some pe_int) (po_some pe_int))) (pg_name (i := 5) sc_law.nd rfl (Or.inl rfl)) (pss_cons (ps_set (i := 11) sc_law.nd rfl (Or.inl rfl) (pe_op op_mod (pe_op op_mul (pv 5) pe_int) pe_int))
  (pss_cons (ps_if (pt_cmpR op_lt (pe_op op_mod (pv 11) pe_int) pe_int (nomark _)) (pss_one (ps_expr (C8.pe_c T__law_turns hr (by decide) rfl (pa_cons (pv 8) (pa_cons (pv 9) (pa_cons (pv 10) (pa_cons (pe_op op_add pe_int (pe_op op_mod (pe_op op_fdiv (pv 11) pe_int) pe_int)) pa_nil))))))) (pss_one (ps_if (PW.pt (pw_and (pt_cmpR op_lt (pe_op op_mod (pv 11) pe_int) pe_int (nomark _)) (pw_and (pt_cmpR op_lt (pe_callB call_len_seq (by rfl) T.b_len PySem.boot_len (pa_cons (C8.pe_mt0 T_Day_letters hr (by decide) (pv 8)) pa_nil)) pe_int (nomark _)) (pw_and1 (pt_cmpR op_le (pe_op op_sub (C8.pe_mt0 T_Day_now hr (by decide) (pv 8)) (pv 6)) pe_int (nomark _)))))) (pss_one (ps_expr (C8.pe_mt T_Day_post hr (by decide) (pv 8) (pa_cons (pe_ix ix_list (pv 1) (pe_op op_mod (pe_op op_fdiv (pv 11) pe_int) (pe_callB call_len_seq (by rfl) T.b_len PySem.boot_len (pa_cons (pv 1) pa_nil))) (fun _ _ => rfl)) (pa_cons (pe_ix ix_list (pv 1) (pe_op op_mod (pe_op op_add (pe_op op_fdiv (pv 11) pe_int) pe_int) (pe_callB call_len_seq (by rfl) T.b_len PySem.boot_len (pa_cons (pv 1) pa_nil))) (fun _ _ => rfl)) pa_nil))))) (pss_one (ps_expr (C8.pe_c T__law_noted hr (by decide) rfl (pa_cons (C8.pe_c T__law_change hr (by decide) rfl (pa_cons (pv 8) (pa_cons (pv 1) (pa_cons (pv 4) (pa_cons (pe_op op_fdiv (pv 11) pe_int) pa_nil))))) (pa_cons (pv 9) pa_nil))))))))
  (pss_one (ps_if (PW.pt (pw_and (pt_cmpR op_eq (pe_op op_mod (pe_op op_fdiv (pv 11) pe_int) pe_int) pe_int (nomark _)) (pw_and1 (pt_not (pt_val (C8.pe_c T__law_spot_right hr (by decide) rfl (pa_cons (pv 8) (pa_cons (pv 4) (pa_cons (pv 10) (pa_cons (pe_op op_fdiv (pv 11) pe_int) pa_nil)))))))))) (pss_one (ps_ret pe_bl)) pss_nil)))))
  (pss_cons (ps_set (i := 12) sc_law.nd rfl (Or.inr rfl) (C8.pe_mt0 T_Day_now hr (by decide) (pv 8)))
  (pss_cons (ps_set (i := 13) sc_law.nd rfl (Or.inl rfl) (C8.pe_mt0 T_Day_log hr (by decide) (pv 8)))
  (pss_cons (ps_set (i := 14) sc_law.nd rfl (Or.inl rfl) (C8.pe_mt0 T_Day_letters hr (by decide) (pv 8)))
  (pss_cons (ps_set (i := 15) sc_law.nd rfl (Or.inl rfl) (C8.pe_c T__law_walked hr (by decide) rfl (pa_cons (pv 4) (pa_cons (pv 14) (pa_cons (pv 13) (pa_cons (pv 10) pa_nil))))))
  (pss_cons (ps_if (PW.pt (pw_or (pt_cmpR op_isN (pv 15) pe_non (nomark _)) (pw_or1 (PW.pt (pw_and (pt_cmpR (op_neD hr.units) (pv 13) (pe_lst pa_nil) (nomark _)) (pw_and1 (pt_not (pt_chain3 op_le op_le op_lt (pv 6) (pe_ix ix_tup (pe_ix ix_list (pv 13) pe_int (fun _ _ => rfl)) pe_int (fun _ _ => rfl)) (pe_ix ix_tup (pe_ix ix_list (pv 13) (pe_op op_sub (pe_callB call_len_seq (by rfl) T.b_len PySem.boot_len (pa_cons (pv 13) pa_nil)) pe_int) (fun _ _ => rfl)) pe_int (fun _ _ => rfl)) (pv 12))))))))) (pss_one (ps_ret pe_bl)) pss_nil)
  (pss_cons (ps_setLc (i := 16) (own := [("_law_letter_here", 17), ("_law_here", 18)]) rfl sc_law.nd rfl rfl (sw_true rfl rfl rfl (by decide +kernel)) (pi_zip (by rfl) T.b_zip (pa_cons (pv 14) (pa_cons (pv 15) pa_nil))) (blkOk_by (own := [("_law_letter_here", 17), ("_law_here", 18)]) (N := N_law) (sc := defScope s_law) (by decide +kernel)) (fun _ _ _ _ _ => by exact (pg_tupK (K := K) 2 rfl rfl (pgs_cons (pg_name (i := 17) sc_law.nd rfl (Or.inl rfl)) (pgs_cons (pg_name (i := 18) sc_law.nd rfl (Or.inl rfl)) pgs_nil)))) (fun _ _ _ _ _ => by exact pts_nil) (fun _ _ _ _ _ => by exact (C8.pe_c T__law_due hr (by decide) rfl (pa_cons (pv 17) (pa_cons (pv 18) (pa_cons (pv 12) pa_nil))))))
  (pss_cons (ps_if (pt_cmpR (op_neD hr.units) (pe_lc (own := [("_law_spot", 19)]) rfl sc_law.nd (pi_list (C8.pe_c T_spots_at hr (by decide) rfl (pa_cons (pv 7) (pa_cons (pv 14) (pa_cons (pv 13) (pa_cons (pv 12) pa_nil)))))) (blkOk_by (own := [("_law_spot", 19)]) (N := N_law) (sc := defScope s_law) (by decide +kernel)) (fun _ _ _ _ _ => by exact (pg_name (i := 19) sc_law.nd rfl (Or.inl rfl))) (fun _ _ _ _ _ => by exact pts_nil) (fun _ _ _ _ _ => by exact (C8.pe_c T__law_told hr (by decide) rfl (pa_cons (pv 19) pa_nil)))) (pv 16) (nomark _)) (pss_one (ps_ret pe_bl)) pss_nil)
  (pss_cons (ps_expr (pe_bm PySem.F.plainAttrs_list PySem.F.slot_list_append PySem.F.type_list_append mt_append (pv 13) (pa_cons pe_non pa_nil)))
  (pss_cons (ps_expr (pe_bm PySem.F.plainAttrs_list PySem.F.slot_list_append PySem.F.type_list_append mt_append (pv 14) (pa_cons pe_non pa_nil)))
  (pss_cons (ps_if (PW.pt (pw_or (pt_not (pt_val (C8.pe_c T__law_nobody hr (by decide) rfl (pa_cons (pv 8) (pa_cons (pe_callB call_len_seq (by rfl) T.b_len PySem.boot_len (pa_cons (pv 16) pa_nil)) pa_nil))))) (pw_or (pt_not (pt_val (C8.pe_c T__law_nobody hr (by decide) rfl (pa_cons (pv 8) (pa_cons (pe_op op_sub (pe_un un_neg pe_int) (pv 6)) pa_nil))))) (pw_or1 (pt_cmpR (op_neD hr.units) (pe_op op_cat (C8.pe_mt0 T_Day_log hr (by decide) (pv 8)) (pe_lst (pa_cons pe_non pa_nil))) (pv 13) (nomark _)))))) (pss_one (ps_ret pe_bl)) pss_nil)
  (pss_one (ps_ret (pe_cmpR (op_eqD hr.units) (pe_lc (own := [("_law_n", 11)]) rfl sc_law.nd (pi_range1 rfl T.b_range (pa_cons (pe_callB call_len_seq (by rfl) T.b_len PySem.boot_len (pa_cons (pv 16) pa_nil)) pa_nil)) (blkOk_by (own := [("_law_n", 11)]) (N := N_law) (sc := defScope s_law) (by decide +kernel)) (fun _ _ _ _ _ => by exact (pg_name (i := 11) sc_law.nd rfl (Or.inl rfl))) (fun _ _ _ _ _ => by exact pts_nil) (fun _ _ _ _ _ => by exact (C8.pe_c T__law_told hr (by decide) rfl (pa_cons (C8.pe_mt T_Day_spot hr (by decide) (pv 8) (pa_cons (pv 11) pa_nil)) pa_nil)))) (pv 16) (nomark _))))))))))))))))))))))), ?_⟩
    have vcell : ∀ {σ : L2.St} {H' : Hp} {ti : TE} {i : Nat}, SqL K H' a (xs.map V.int) → σ[0]? = some (some (.ref a)) → Val ti σ H' (nat i) → Val (tCall (spCell K) [] C8.E0 (tCons (tVar 0) (tCons ti tNil))) σ H' (.int (cellAt xs i)) := fun hs e hi => v_call2 (val_var e) hi fun Q q => ⟨a, xs, _, rfl, hs, q⟩
    -- names
    obtain ⟨many, hmany⟩ : ∃ many : Nat, 2 + cellAt xs 1 % 5 = (many : Int) := ⟨(2 + cellAt xs 1 % 5).toNat, by omega⟩
    refine sq_seq (asg_go (call_go (cons_go (.int (cellAt xs 0)) (vcell (i := 0) hS rfl val_c) (cons_go (nat many) (Val.to (v_add (i := 2) val_c (v_mod (j := 5) (vcell (i := 1) hS rfl val_c) val_c (by decide))) (congrArg V.int hmany)) ?_))))
    refine ⟨_, many, rfl, by omega, fun H1 q1 zs s1 hq1 e1 zl zok znd => ?_⟩
    have hS1 := s1.seq hS
    -- cells
    obtain ⟨nl, hnl⟩ : ∃ nl : Nat, 1 + cellAt xs 1 / 5 % 8 = (nl : Int) := ⟨(1 + cellAt xs 1 / 5 % 8).toNat, by omega⟩
    refine nm_go ?_
    dsimp only
    refine sq_asg ?_
    have vnl : Val (tOp (rI0 fun i j => .int (i + j)) (tC (.int 1)) (tOp (rI (fun _ j => 0 < j) fun i j => .int (i % j)) (tOp (rI CDiv fun i j => .int (i / j)) (tCall (spCell K) [] C8.E0 (tCons (tVar 0) (tCons (tC (.int 1)) tNil))) (tC (.int 5))) (tC (.int 8)))) [some (.ref a), some (.ref q1), none, none, none, none, none, none, none, none, none, none, none, none, none, none, none, none, none, none] H1 (.int (nl : Int)) :=
      Val.to (v_add (i := 1) val_c (v_mod (j := 8) (v_fdiv (j := 5) (vcell (i := 1) hS1 rfl val_c) val_c ⟨by decide, by decide⟩) val_c (by decide))) (congrArg V.int hnl)
    refine rng_go vnl (by omega) (by omega) ?_
    intro D2 hD2
    refine lc_range (lo := 0) (n := (nl : Int).toNat) (fun i H' => Same H1 H' ∧ H' D2 = some (.lst (((List.range i).map fun j : Nat => cellAt xs (3 + j) + 31 * (j : Int) * (j : Int)).map V.int))) ⟨Same.new hD2, upd_same⟩ ?_ ?_
    · rintro i H2 hi ⟨s, d⟩
      have hi : i < nl := by omega
      refine ⟨rfl, ?_⟩
      rw [Int.zero_add]
      refine (v_add (vcell (i := 3 + i) (s.seq hS1) rfl (Val.to (v_add (i := 3) (j := (i : Int)) val_c (val_var rfl)) (congrArg V.int (by omega)))) (v_mul (j := (i : Int)) (v_mul (j := (i : Int)) (val_c (v := .int 31)) (val_var rfl) (.inl (by decide))) (val_var rfl) (.inr (by constructor <;> omega)))) _ ?_
      refine ⟨_, d, sz_lt (by rw [List.length_map, List.length_map, List.length_range]; omega), s.mut hD2, ?_⟩
      rw [upd_same, List.range_succ, List.map_append, List.map_append]
      rfl
    · rintro H2 ⟨s2, d2⟩
      rw [show (nl : Int).toNat = nl by omega] at d2
      generalize hcs : ((List.range nl).map fun j : Nat => cellAt xs (3 + j) + 31 * (j : Int) * (j : Int)) = cs at d2
      have csl : cs.length = nl := by rw [← hcs, List.length_map, List.length_range]
      have e2 := s2 _ _ e1
      -- lines
      refine ⟨_, rfl, D2, rfl, ⟨_, SqL.of d2⟩, fun D3 hD3 => ?_⟩
      refine lc_list (xs := cs.map V.int) (fun i H' => ∃ (las : List Addr) (lns : List Ln), Same H2 H' ∧ H' D3 = some (.lst (las.map V.ref)) ∧ Paired (LnAt H') las lns ∧ lns.length = i ∧ ∀ l ∈ lns, LnOk zs l) ⟨[], [], Same.new hD3, upd_same, .nil, rfl, fun l hl => nomatch hl⟩ (fun _ _ _ ⟨_, _, s, _⟩ => SqL.of (s _ _ d2)) ?_ ?_
      · rintro i x H3 hi ⟨las, lns, s, d, pl, ll, ok⟩
        obtain ⟨ci, hci, rfl⟩ := map_of hi
        have li := lt_of_at hci
        refine ⟨rfl, ?_⟩
        refine ⟨_, rfl, _, rfl, ci, q1, zs, rfl, s _ _ e2, by omega, by omega, znd, fun H4 la l s4 hla okl => ?_⟩
        have d4 := s4 _ _ d
        have pll := pl.length
        refine ⟨_, d4, sz_lt (by rw [List.length_map]; omega), las ++ [la], lns ++ [l], (s.trans s4).mut hD3, ?_, ?_, ?_, fun l' hl' => ?_⟩
        · rw [upd_same, List.map_append]
          rfl
        · have km : ∀ (b : Addr) (l' : Ln), LnAt H4 b l' → LnAt (upd H4 D3 (.lst (las.map V.ref ++ [.ref la]))) b l' := fun b l' h => by
            show upd H4 D3 _ b = _
            rw [upd_ne (ne_of h d4 (by intro z; cases z))]
            exact h
          exact Paired.app (L2.Paired.mapP pl fun b l' h => km b l' (h.mono s4)) (.cons (km la l hla) .nil)
        · rw [List.length_append, ll]
          rfl
        · rcases List.mem_append.mp hl' with h | h
          · exact ok l' h
          · rw [List.mem_singleton.mp h]
            exact okl
      · rintro H3 ⟨las, lns, s3, d3, pl3, ll, lok⟩
        rw [List.length_map, csl] at ll
        have s13 := s2.trans s3
        have hS3 := s13.seq hS1
        have e3 := s3 _ _ e2
        obtain ⟨N, hN⟩ : ∃ N : Nt, N = ⟨zs, lns⟩ := ⟨_, rfl⟩
        have hNn : N.names = zs := by rw [hN]
        have hNl : N.lines = lns := by rw [hN]
        have nok : NtOk N := ⟨by rw [hNn]; exact zok, by rw [hNn]; exact znd, by rw [hNn]; omega, by rw [hNn, hNl]; exact lok, by rw [hNl]; omega⟩
        -- first
        obtain ⟨first, hfirst⟩ : ∃ first : Int, cellAt xs 2 % (10 ^ (9 : Int).toNat - 99) = first := ⟨_, rfl⟩
        have p9 : (10 : Int) ^ (9 : Int).toNat = 1000000000 := by decide
        have f0 : 0 ≤ first ∧ first + 100 ≤ 1000000000 := by
          rw [p9] at hfirst
          omega
        refine sq_seq (st_set (Val.to (v_mod (vcell (i := 2) hS3 rfl val_c) (v_sub (v_pow (i := 10) (j := 9) val_c val_c ⟨by decide, by decide, by decide⟩) (val_c (v := .int 99))) (by rw [p9]; decide)) (congrArg V.int hfirst)) ?_)
        -- net
        refine ⟨_, rfl, _, rfl, ?_⟩
        intro pn dn hpn hdn nen
        have mk4 : ∀ b o, H3 b = some o → (upd (upd H3 dn (.own pn)) pn (.ins c.net dn [])) b = some o := fun b o e => by rw [upd_ne (ne_of_none e hpn), upd_ne (ne_of_none e hdn)]; exact e
        refine ⟨pn, dn, q1, D3, N, rfl, upd_same, by rw [hNn]; exact mk4 _ _ e3, ⟨las, mk4 _ _ d3, by rw [hNl]; exact L2.Paired.mapP pl3 fun b l' h => mk4 _ _ h⟩, nok, fun H4 k4 hN4 => ⟨rfl, ?_⟩⟩
        have s4 : Same H3 H4 := made_keep hpn hdn k4
        -- day
        refine ⟨_, rfl, _, rfl, ?_⟩
        intro p dp hp hdp nep
        have mk5 : ∀ b o, H4 b = some o → (upd (upd H4 dp (.own p)) p (.ins c.day dp [])) b = some o := fun b o e => by rw [upd_ne (ne_of_none e hp), upd_ne (ne_of_none e hdp)]; exact e
        refine ⟨p, dp, pn, N, first, rfl, upd_same, hN4.mono mk5, nok, fun H5 A kt tf k5 mu d5 rep tok ktl => ⟨rfl, ?_⟩⟩
        have s5 : Same H4 H5 := made_keep hp hdp k5
        have mu5 : ∀ x, Mut A p x → H4 x = none := fun x m => by
          rcases mu x m with e | e
          · rw [e]; exact hp
          · exact made_free e
        -- closed, shut
        intro lc hlc
        have s6 : Same H5 (upd H5 lc (.dK [])) := Same.new hlc
        have hc6 : (upd H5 lc (.dK [])) lc = some (.dK []) := upd_same
        generalize upd H5 lc (.dK []) = H6 at s6 hc6 ⊢
        intro ls hls
        have s7 : Same H6 (upd H6 ls (.dT [])) := Same.new hls
        have hs7 : (upd H6 ls (.dT [])) ls = some (.dT []) := upd_same
        generalize upd H6 ls (.dT []) = H7 at s7 hs7 ⊢
        have L7 : LawSt c H4 H7 p lc ls A ⟨N, first, kt, [], [], [], []⟩ [] first 0 0 := by
          refine ⟨d5.mono (s6.trans s7), s7 _ _ hc6, hs7, fun m => mut_known d5 m hlc, fun m => mut_known (d5.mono s6) m hls, s5.trans (s6.trans s7), mu5, s5.free hlc, (s5.trans s6).free hls, ?_, nok, ⟨tf, rep, tok⟩, Nat.zero_le _, ktl, Nat.zero_le _, Nat.zero_le _, Nat.zero_le _, fun kv h => nomatch h⟩
          exact ⟨rfl, (fun t h => nomatch h), (fun i b h => by cases h), .nil, (fun b h => nomatch h), ⟨rfl, rfl, fun n lt w sp h => by cases h⟩, (fun kv h => nomatch h), (fun r due h => nomatch h), Int.le_refl _⟩
        have s37 : Same H3 H7 := s4.trans (s5.trans (s6.trans s7))
        -- for cell in script[3:43]
        obtain ⟨ys, hys, ys40⟩ := cut_ints xs
        refine ⟨_, rfl, 3, rfl, 43, rfl, a, _, rfl, s37.seq hS3, fun sl hsl => ⟨sl, rfl, ⟨_, SqL.of upd_same⟩, ?_⟩⟩
        rw [hys]
        have L8 := L7.addG (o := .lst (ys.map V.int)) hsl
        have gsl : (upd H4 sl (.lst (ys.map V.int))) sl = some (.lst (ys.map V.int)) := upd_same
        have sl4 : H4 sl = none := (s5.trans (s6.trans s7)).free hsl
        have sG4 : Same H4 (upd H4 sl (.lst (ys.map V.int))) := Same.new sl4
        generalize upd H4 sl (.lst (ys.map V.int)) = G at L8 gsl sG4
        generalize upd H7 sl (.lst (ys.map V.int)) = H8 at L8 ⊢
        have gz : G q1 = some (.lst (N.names.map V.str)) := by rw [hNn]; exact sG4 _ _ (s4 _ _ e3)
        have gl : LOf (LnAt G) G D3 N.lines := ⟨las, sG4 _ _ (s4 _ _ d3), by rw [hNl]; exact L2.Paired.mapP pl3 fun b l' h => sG4 _ _ (s4 _ _ h)⟩
        have gN : NetAt c G pn N := hN4.mono sG4
        have nz2 : 2 ≤ N.names.length := by rw [hNn]; omega
        have nl1 : 1 ≤ N.lines.length := by rw [hNl]; omega
        refine for_list (K := K) (xs := ys.map V.int) (fun i σ H' => ∃ (A : Da) (D : Dy) (kst : List (List Key × V)) (o5 o11 : Option V), σ = [some (.ref a), some (.ref q1), some (.ref D2), none, some (.ref D3), o5, some (.int first), some (.ref pn), some (.ref p), some (.ref lc), some (.ref ls), o11, none, none, none, none, none, none, none, none] ∧ LawSt c G H' p lc ls A D kst first i (100 * i) ∧ D.N = N)
          ⟨A, _, [], _, _, rfl, L8, rfl⟩ (fun i σ H' _ ⟨_, _, _, _, _, _, L, _⟩ => SqL.of (L.gh _ _ gsl)) ?_ ?_
        · rintro i x σ H1 hi ⟨A, D, kst, o5, o11, rfl, L, eN⟩
          obtain ⟨y, hy, rfl⟩ := map_of hi
          have li := lt_of_at hy
          obtain ⟨n, hn⟩ : ∃ n : Int, y * 1099087573 % 10000000000037 = n := ⟨_, rfl⟩
          refine sq_seq (st_set (Val.to (v_mod (v_mul (i := y) (val_var rfl) (val_c (v := .int 1099087573)) (.inr (by decide))) (val_c (v := .int 10000000000037)) (by decide)) (congrArg V.int hn)) ?_)
          have fin : ∀ {H2 : Hp} {A2 : Da} {D2' : Dy} {kst2 : List (List Key × V)}, LawSt c G H2 p lc ls A2 D2' kst2 first (i + 1) (100 * (i + 1)) → D2'.N = N → LOf (LnAt G) G D3 D2'.N.lines ∧ ∀ H3, Same H2 H3 → LawSt c G H3 p lc ls A2 D2' kst2 first (i + 1) (100 * (i + 1)) := fun L2 e => ⟨by rw [e]; exact gl, fun H3 s => L2.mono s⟩
          refine sq_seq (st_if (ans_test (v_lt (i := n % 8) (j := 4) (v_mod (i := n) (val_var rfl) val_c (by decide)) val_c)) (fun _ => ?_) (fun _ => ?_))
          · -- turns
            obtain ⟨m, hm⟩ : ∃ m : Nat, 1 + n / 8 % 2 = (m : Int) := ⟨(1 + n / 8 % 2).toNat, by omega⟩
            refine ⟨_, rfl, _, rfl, _, rfl, ?_⟩
            refine cons_go (nat m) (Val.to (v_add (i := 1) val_c (v_mod (v_fdiv (i := n) (j := 8) (val_var rfl) val_c ⟨by decide, by decide⟩) (val_c (v := .int 2)) (by decide))) (congrArg V.int hm)) ?_
            refine ⟨p, lc, ls, G, A, D, kst, first, i, 100 * i, m, rfl, L, by omega, by omega, by omega, fun H2 A2 D2' kst2 L2 e2 => ?_⟩
            have e2' := e2.trans eN
            obtain ⟨g1, g2⟩ := fin (L2.up (Nat.le_succ _) (by omega)) e2'
            exact st_right rfl rfl rfl rfl L2 g1 fun H3 s => ⟨A2, D2', kst2, _, _, rfl, g2 H3 s, e2'⟩
          · by_cases h6 : n % 8 < 6
            · refine and_go (Ans.to (ans_test (v_lt (i := n % 8) (j := 6) (v_mod (i := n) (j := 8) (val_var rfl) val_c (by decide)) val_c)) (decide_eq_true h6)) ?_
              refine ⟨_, rfl, p, A.dx, _, rfl, L.day.po, ln_Day_letters, p, A, D, rfl, L.day, fun H2 l2 s2 hl2 ⟨tas, t1, t2⟩ => ?_⟩
              have L2' := L.mono s2
              have tl := t2.length
              refine ⟨l2, _, rfl, .inl (SqL.of t1), ((tas.map V.ref).length : Int), 12, rfl, rfl, _, rfl, ?_⟩
              by_cases h12 : D.lts.length < 12
              · rw [decide_eq_true (show (((tas.map V.ref).length : Nat) : Int) < 12 by rw [List.length_map]; omega)]
                refine iteT ?_
                refine ⟨_, rfl, p, A.dx, _, rfl, L2'.day.po, ln_Day_now, p, A, D, rfl, L2'.day, _, rfl, D.tn, first, rfl, rfl, D.tn - first, 30, rfl, rfl, _, rfl, ?_⟩
                by_cases h30 : D.tn - first ≤ 30
                · rw [decide_eq_true h30]
                  refine iteT ?_
                  refine st_post (G := G) rfl rfl rfl L2' (by rw [eN]; exact gz) (by rw [eN]; exact nz2) f0.1 f0.2 h12 h30 fun H3 A3 D3' L3 e3' => ?_
                  have e3'' := e3'.trans eN
                  obtain ⟨g1, g2⟩ := fin (L3.up (Nat.le_succ _) (by omega)) e3''
                  exact st_right rfl rfl rfl rfl L3 g1 fun H4 s => ⟨A3, D3', kst, _, _, rfl, g2 H4 s, e3''⟩
                · rw [decide_eq_false h30]
                  refine iteF ?_
                  refine st_change (G := G) rfl rfl rfl rfl rfl L2' (by rw [eN]; exact gz) (by rw [eN]; exact gl) (by rw [eN]; exact nz2) (by rw [eN]; exact nl1) (by omega) fun H3 A3 D3' kst3 L3 e3' => ?_
                  have e3'' := e3'.trans eN
                  obtain ⟨g1, g2⟩ := fin (L3.up (Nat.le_refl _) (by omega)) e3''
                  exact st_right rfl rfl rfl rfl L3 g1 fun H4 s => ⟨A3, D3', kst3, _, _, rfl, g2 H4 s, e3''⟩
              · rw [decide_eq_false (show ¬ (((tas.map V.ref).length : Nat) : Int) < 12 by rw [List.length_map]; omega)]
                refine iteF ?_
                refine iteF ?_
                refine st_change (G := G) rfl rfl rfl rfl rfl L2' (by rw [eN]; exact gz) (by rw [eN]; exact gl) (by rw [eN]; exact nz2) (by rw [eN]; exact nl1) (by omega) fun H3 A3 D3' kst3 L3 e3' => ?_
                have e3'' := e3'.trans eN
                obtain ⟨g1, g2⟩ := fin (L3.up (Nat.le_refl _) (by omega)) e3''
                exact st_right rfl rfl rfl rfl L3 g1 fun H4 s => ⟨A3, D3', kst3, _, _, rfl, g2 H4 s, e3''⟩
            · refine st_no (ans_and0 (Ans.to (ans_test (v_lt (i := n % 8) (j := 6) (v_mod (i := n) (j := 8) (val_var rfl) val_c (by decide)) val_c)) (decide_eq_false h6))) ?_
              refine st_change (G := G) rfl rfl rfl rfl rfl L (by rw [eN]; exact gz) (by rw [eN]; exact gl) (by rw [eN]; exact nz2) (by rw [eN]; exact nl1) (by omega) fun H3 A3 D3' kst3 L3 e3' => ?_
              have e3'' := e3'.trans eN
              obtain ⟨g1, g2⟩ := fin (L3.up (Nat.le_refl _) (by omega)) e3''
              exact st_right rfl rfl rfl rfl L3 g1 fun H4 s => ⟨A3, D3', kst3, _, _, rfl, g2 H4 s, e3''⟩
        · rintro σ H1 ⟨A, D, kst, o5, o11, rfl, L, eN⟩
          have d1 := L.day
          have good := L.good
          have few12 := L.few
          have rl := good.rel.lw
          have lbs := L.bs
          rw [List.length_map] at lbs
          obtain ⟨W, hW⟩ : ∃ W, W = runW D.N (w0 D.lts) D.bs := ⟨_, rfl⟩
          rw [← hW] at rl
          have hstr := good.strs L.nok
          rw [← hW] at hstr
          obtain ⟨sps, hsps⟩ : ∃ sps, sps = dues D.lts W D.tn := ⟨_, rfl⟩
          have spl : sps.length = D.lts.length := by rw [hsps]; exact dues_len rl
          rw [← hsps] at hstr
          have sh := lay_tolds hstr
          -- now, log, letters
          refine ⟨_, rfl, p, A.dx, _, rfl, d1.po, ln_Day_now, p, A, D, rfl, d1, ?_⟩
          refine ⟨_, rfl, p, A.dx, _, rfl, d1.po, ln_Day_log, p, A, D, rfl, d1, fun H2 pg s2 hpg ⟨qs, g1, g2⟩ => ?_⟩
          have d2 := d1.mono s2
          refine ⟨_, rfl, p, A.dx, _, rfl, d2.po, ln_Day_letters, p, A, D, rfl, d2, fun H3 pq s3 hpq ⟨tas, t1, t2⟩ => ?_⟩
          have d3 := d2.mono s3
          have s13 := s2.trans s3
          have g13 := s3 _ _ g1
          have g23 : Paired (BgAt H3) qs D.bs := L2.Paired.mapP g2 fun _ _ => BgAt.mono s3
          refine ⟨_, rfl, _, rfl, _, rfl, _, rfl, D3, pq, pg, ls, D.N, D.lts, D.bs, kst, rfl, (by rw [eN]; exact gl.mono (L.gh.trans s13) (fun _ _ => LnAt.mono (L.gh.trans s13))), ⟨tas, t1, t2⟩, ⟨qs, g13, g23⟩, s13 _ _ L.hs, by omega, good.log, good.ord, good.shutN, fun H4 ps ws s4 hps w1 w2 => ?_⟩
          rw [← hW] at w2
          have d4 := d3.mono s4
          refine nm_go ?_
          dsimp only
          refine sq_log (K := K) rfl rfl rfl rfl (s4 _ _ g13) (L2.Paired.mapP g23 fun _ _ => BgAt.mono s4) good.ord good.turns fun H5 s5 => ?_
          have s35 := s4.trans s5
          have d5 := d4.mono s5
          have g15 := s35 _ _ g13
          have t15 := s35 _ _ t1
          have w15 := s5 _ _ w1
          have tl := t2.length
          have wl := w2.length
          have ql := g23.length
          -- due_here
          refine ⟨_, rfl, _, rfl, pq, ps, _, _, rfl, SqL.of t15, SqL.of w15, fun Dl hD => ?_⟩
          refine lc_it (walk_zip (xs := tas.map V.ref) (ys := ws.map V.ref) (n := D.lts.length) (by rw [List.length_map, List.length_map]; omega)) (fun i H' => ∃ ls' : List Addr, Same H5 H' ∧ H' Dl = some (.lst (ls'.map V.ref)) ∧ Paired (fun l sp => H5 l = none ∧ l ≠ Dl ∧ H' l = some (.lst (toldV sp))) ls' (dues (D.lts.take i) (W.take i) D.tn)) ⟨[], Same.new hD, upd_same, .nil⟩ (fun _ _ _ ⟨_, s, _, _⟩ => ⟨SqL.of (s _ _ t15), SqL.of (s _ _ w15)⟩) ?_ ?_
          · rintro i x H6 H7 hi ⟨ls', s, dd, pb⟩ ⟨U, x1, x2, rfl, hU, rfl, e1, e2⟩
            obtain ⟨la, ha, rfl⟩ := map_of e1
            obtain ⟨wa, hb, rfl⟩ := map_of e2
            obtain ⟨lt, hlt, hla⟩ := Paired.at_l t2 ha
            obtain ⟨r, hr2, hwa⟩ := Paired.at_l w2 hb
            have s7 : Same H6 (upd H6 U (.tup [.ref la, .ref wa])) := Same.new hU
            have u7 : (upd H6 U (.tup [.ref la, .ref wa])) U = some (.tup [.ref la, .ref wa]) := upd_same
            generalize upd H6 U (.tup [.ref la, .ref wa]) = H7 at s7 u7 ⊢
            refine ⟨U, _, rfl, SqT.of u7, rfl, _, _, rfl, _, _, rfl, rfl, rfl, ?_⟩
            have past := good.past
            rw [← hW] at past
            refine ⟨_, rfl, _, rfl, _, rfl, la, wa, lt, r, D.tn, rfl, hla.mono (s35.trans (s.trans s7)), hwa.mono (s5.trans (s.trans s7)), fun e => past r (List.mem_of_getElem? hr2) e, fun H8 l8 s8 hl8 e8 => ?_⟩
            have dd7 := s7 _ _ dd
            have l8D : l8 ≠ Dl := (ne_of_none dd7 hl8).symm
            have dd8 := s8 _ _ dd7
            have bl : ls'.length = i := by
              rw [pb.length, dues_len (by rw [List.length_take, List.length_take]; omega), List.length_take]
              omega
            refine ⟨_, dd8, sz_lt (by rw [List.length_map]; omega), ls' ++ [l8], (s.trans (s7.trans s8)).mut hD, ?_, ?_⟩
            · rw [upd_same, List.map_append]
              rfl
            · rw [dues_take hlt hr2]
              exact Paired.app (L2.Paired.mapP pb fun b t ⟨h1, h2, h3⟩ => ⟨h1, h2, by rw [upd_ne h2]; exact s8 _ _ (s7 _ _ h3)⟩) (.cons ⟨(s.trans s7).free hl8, l8D, by rw [upd_ne l8D]; exact e8⟩ .nil)
          · rintro H6 ⟨ls', s6, x16, p16⟩
            rw [List.take_length, ← rl, List.take_length, ← hsps] at p16
            have d6 := d5.mono s6
            have s36 := s35.trans s6
            have llen : ls'.length = D.lts.length := by rw [p16.length, spl]
            -- told of spots_at
            refine ⟨_, rfl, _, rfl, _, rfl, _, rfl, pn, pq, pg, D.N, D.lts, D.bs, D.tn, rfl, (by rw [eN]; exact gN.mono (L.gh.trans (s13.trans s36))), ⟨tas, s36 _ _ t1, L2.Paired.mapP t2 fun _ _ => LtAt.mono s36⟩, ⟨qs, s36 _ _ g13, L2.Paired.mapP g23 fun _ _ => BgAt.mono s36⟩, by omega, good.plan (by omega), good.planS, fun H7 l7 as7 s7 e7 p7 => ⟨l7, rfl, ⟨_, SqL.of e7⟩, fun D8 hD8 => ?_⟩⟩
            rw [good.spots, ← hW, ← hsps] at p7
            have al7 := p7.length
            refine lc_list (xs := as7.map V.ref) (fun i H' => ∃ ls8 : List Addr, Same H7 H' ∧ H' D8 = some (.lst (ls8.map V.ref)) ∧ Paired (fun l sp => l ≠ D8 ∧ H' l = some (.lst (toldV sp))) ls8 (sps.take i)) ⟨[], Same.new hD8, upd_same, .nil⟩ (fun _ _ _ ⟨_, s, _, _⟩ => SqL.of (s _ _ e7)) ?_ ?_
            · rintro i x H8 hi ⟨ls8, s, dd, pb⟩
              obtain ⟨sa, ha, rfl⟩ := map_of hi
              obtain ⟨sp, hsp, hsa⟩ := Paired.at_l p7 ha
              refine ⟨rfl, ?_⟩
              refine ⟨_, rfl, sa, sp, rfl, hsa.mono s, fun H9 l9 s9 hl9 e9 => ?_⟩
              have l9D : l9 ≠ D8 := (ne_of_none dd hl9).symm
              have bl := pb.length
              rw [List.length_take] at bl
              refine ⟨_, s9 _ _ dd, sz_lt (by rw [List.length_map]; omega), ls8 ++ [l9], (s.trans s9).mut hD8, ?_, ?_⟩
              · rw [upd_same, List.map_append]
                rfl
              · rw [take_snoc hsp]
                exact Paired.app (L2.Paired.mapP pb fun b t ⟨h2, h3⟩ => ⟨h2, by rw [upd_ne h2]; exact s9 _ _ h3⟩) (.cons ⟨l9D, by rw [upd_ne l9D]; exact e9⟩ .nil)
            · rintro H8 ⟨ls8, s8, x8, p8⟩
              rw [List.length_map, al7, List.take_length] at p8
              have s68 := s7.trans s8
              have d8 := d6.mono s68
              have p16' : Paired (fun l sp => H8 l = some (.lst (toldV sp))) ls' sps := L2.Paired.mapP p16 fun l sp h => s68 _ _ h.2.2
              have dp8 : Dp K H8 (.ref D8) (.list (sps.map toldD)) := .lst (SqL.of x8) (tolds_dp (L2.Paired.mapP p8 fun l sp h => h.2))
              have dp16 : Dp K H8 (.ref Dl) (.list (sps.map toldD)) := .lst (SqL.of (s68 _ _ x16)) (tolds_dp p16')
              refine ⟨_, rfl, _, _, dp8, dp16, shaped_of sh (by decide), shaped_of sh (by decide), ?_⟩
              rw [SeqAt.eqv_refl _ sh.1]
              refine ⟨false, rfl, iteF ?_⟩
              -- the told lists are changed
              have s38 := s36.trans s68
              have gpg := s38 _ _ g13
              have gpq := s38 _ _ t1
              refine ⟨_, rfl, .inl ⟨rfl, _, SqL.of gpg⟩, pg, qs.map V.ref, .non, rfl, rfl, gpg, sz_lt (by rw [List.length_map]; omega), ?_⟩
              have k9 : ∀ b o, H8 b = some o → b ≠ pg → (upd H8 pg (.lst (qs.map V.ref ++ [.non]))) b = some o := fun b o e n => by rw [upd_ne n]; exact e
              have d9 := d8.mutL (d1.same.free hpg) (fun m => mut_known d1 m hpg) k9
              have e9 : (upd H8 pg (.lst (qs.map V.ref ++ [.non]))) pg = some (.lst (qs.map V.ref ++ [.non])) := upd_same
              have b9 : Paired (BgAt (upd H8 pg (.lst (qs.map V.ref ++ [.non])))) qs D.bs := L2.Paired.mapP g23 fun a b h => Bg_mut gpg (h.mono s38)
              have npq : pq ≠ pg := (ne_of_none g1 hpq).symm
              have q9 := k9 _ _ gpq npq
              have nDg : Dl ≠ pg := (ne_of_none g15 hD).symm
              have nDq : Dl ≠ pq := (ne_of_none t15 hD).symm
              have x9 := k9 _ _ (s68 _ _ x16) nDg
              have p9' : Paired (fun l sp => l ≠ pq ∧ (upd H8 pg (.lst (qs.map V.ref ++ [.non]))) l = some (.lst (toldV sp))) ls' sps := L2.Paired.mapP p16 fun l sp h => ⟨(ne_of_none t15 h.1).symm, k9 _ _ (s68 _ _ h.2.2) (ne_of_none g15 h.1).symm⟩
              generalize upd H8 pg (.lst (qs.map V.ref ++ [.non])) = H9 at d9 e9 b9 q9 x9 p9' ⊢
              refine ⟨_, rfl, .inl ⟨rfl, _, SqL.of q9⟩, pq, tas.map V.ref, .non, rfl, rfl, q9, sz_lt (by rw [List.length_map]; omega), ?_⟩
              have k10 : ∀ b o, H9 b = some o → b ≠ pq → (upd H9 pq (.lst (tas.map V.ref ++ [.non]))) b = some o := fun b o e n => by rw [upd_ne n]; exact e
              have d10 := d9.mutL (d2.same.free hpq) (fun m => mut_known d2 m hpq) k10
              have e10 := k10 _ _ e9 npq.symm
              have b10 : Paired (BgAt (upd H9 pq (.lst (tas.map V.ref ++ [.non])))) qs D.bs := L2.Paired.mapP b9 fun a b h => Bg_mut q9 h
              have x10 := k10 _ _ x9 nDq
              have p10 : Paired (fun l sp => (upd H9 pq (.lst (tas.map V.ref ++ [.non]))) l = some (.lst (toldV sp))) ls' sps := L2.Paired.mapP p9' fun l sp h => k10 _ _ h.2 h.1
              generalize upd H9 pq (.lst (tas.map V.ref ++ [.non])) = H10 at d10 e10 b10 x10 p10 ⊢
              -- nobody
              refine ⟨_, rfl, _, rfl, Dl, _, rfl, .inl (SqL.of x10), p, A, D, _, rfl, d10, ?_, fun H11 s11 => ⟨true, rfl, iteF ?_⟩⟩
              · rw [List.length_map, llen, decide_eq_false (show ¬ ((D.lts.length : Nat) : Int) < (D.lts.length : Int) by omega), Bool.and_false]
              have d11 := d10.mono s11
              refine ⟨_, rfl, 1, rfl, _, rfl, _, _, rfl, rfl, p, A, D, _, rfl, d11, ?_, fun H12 s12 => ⟨true, rfl, iteF ?_⟩⟩
              · rw [decide_eq_false (show ¬ (0 : Int) ≤ -1 - first by omega), Bool.false_and]
              have d12 := d11.mono s12
              refine ⟨_, rfl, p, A.dx, _, rfl, d12.po, ln_Day_log, p, A, D, rfl, d12, fun H13 pg2 s13' hpg2 ⟨qs2, y1, y2⟩ => ⟨by show 1 ≤ sizeLine; decide, fun l2 hl2 => ?_⟩⟩
              have s14 : Same H13 (upd H13 l2 (.lst [.non])) := Same.new hl2
              have e14 : (upd H13 l2 (.lst [.non])) l2 = some (.lst [.non]) := upd_same
              generalize upd H13 l2 (.lst [.non]) = H14 at s14 e14 ⊢
              have y2l := y2.length
              refine ⟨pg2, l2, qs2.map V.ref, [.non], rfl, rfl, s14 _ _ y1, e14, sz_le (by rw [List.length_map]; simp only [List.length_cons, List.length_nil]; omega), fun l3 hl3 => ?_⟩
              have s15 : Same H14 (upd H14 l3 (.lst (qs2.map V.ref ++ [.non]))) := Same.new hl3
              have e15 : (upd H14 l3 (.lst (qs2.map V.ref ++ [.non]))) l3 = some (.lst (qs2.map V.ref ++ [.non])) := upd_same
              generalize upd H14 l3 (.lst (qs2.map V.ref ++ [.non])) = H15 at s15 e15 ⊢
              have s10 := s11.trans (s12.trans (s13'.trans (s14.trans s15)))
              have dpA : Dp K H15 (.ref l3) (.list (D.bs.map bagD ++ [.none])) := .lst (SqL.of e15) (dpAll_app (bags_dp (L2.Paired.mapP y2 fun _ _ => BgAt.mono (s14.trans s15))) (.cons .non .nil))
              have dpB : Dp K H15 (.ref pg) (.list (D.bs.map bagD ++ [.none])) := .lst (SqL.of (s10 _ _ e10)) (dpAll_app (bags_dp (L2.Paired.mapP b10 fun _ _ => BgAt.mono s10)) (.cons .non .nil))
              refine ⟨_, rfl, _, _, dpA, dpB, shaped_of (lay_logN _) (by decide), shaped_of (lay_logN _) (by decide), ?_⟩
              rw [SeqAt.eqv_refl _ (lay_logN D.bs).1]
              refine ⟨false, rfl, iteF ?_⟩
              -- the spots told one by one
              have d15 := d10.mono s10
              have x15 := s10 _ _ x10
              have p15 : Paired (fun l sp => H15 l = some (.lst (toldV sp))) ls' sps := L2.Paired.mapP p10 fun l sp h => s10 _ _ h
              refine ⟨_, rfl, Dl, _, rfl, .inl (SqL.of x15), (D.lts.length : Int), (by rw [List.length_map, llen]), by omega, by omega, fun D9 hD9 => ?_⟩
              refine lc_range (lo := 0) (n := (D.lts.length : Int).toNat) (fun i H' => ∃ ls9 : List Addr, Same H15 H' ∧ H' D9 = some (.lst (ls9.map V.ref)) ∧ Paired (fun l sp => l ≠ D9 ∧ H' l = some (.lst (toldV sp))) ls9 (sps.take i)) ⟨[], Same.new hD9, upd_same, .nil⟩ ?_ ?_
              · rintro i H16 hi ⟨ls9, s, dd, pb⟩
                have hi : i < D.lts.length := by omega
                refine ⟨rfl, ?_⟩
                rw [Int.zero_add]
                have d16 := d15.mono s
                obtain ⟨lt, hlt⟩ := at_of_lt hi
                obtain ⟨r, hr2⟩ := at_of_lt (show i < W.length by omega)
                obtain ⟨sp, hsp⟩ := at_of_lt (show i < D.sps.length by rw [← good.len]; exact hi)
                have es : sps[i]? = some (laterM D.N lt sp D.tn) := by
                  rw [hsps, dues_at hlt hr2, good.spot hlt (by rw [← hW]; exact hr2) hsp]
                refine ⟨_, rfl, p, A.dx, _, rfl, d16.po, ln_Day_spot, _, rfl, p, A, D, i, lt, sp, rfl, d16, hlt, hsp, good.spo, fun a6 H17 s17 sp6 => ⟨a6, _, rfl, sp6, fun H18 l18 s18 hl18 e18 => ?_⟩⟩
                have dd17 := s17 _ _ dd
                have lD : l18 ≠ D9 := (ne_of_none dd17 hl18).symm
                have bl := pb.length
                rw [List.length_take] at bl
                refine ⟨_, s18 _ _ dd17, sz_lt (by rw [List.length_map]; omega), ls9 ++ [l18], (s.trans (s17.trans s18)).mut hD9, ?_, ?_⟩
                · rw [upd_same, List.map_append]
                  rfl
                · rw [take_snoc es]
                  exact Paired.app (L2.Paired.mapP pb fun b t ⟨h2, h3⟩ => ⟨h2, by rw [upd_ne h2]; exact s18 _ _ (s17 _ _ h3)⟩) (.cons ⟨lD, by rw [upd_ne lD]; exact e18⟩ .nil)
              · rintro H16 ⟨ls9, s, dd, pb⟩
                rw [show (D.lts.length : Int).toNat = sps.length by omega, List.take_length] at pb
                have dpC : Dp K H16 (.ref D9) (.list (sps.map toldD)) := .lst (SqL.of dd) (tolds_dp (L2.Paired.mapP pb fun l sp h => h.2))
                have dpD : Dp K H16 (.ref Dl) (.list (sps.map toldD)) := .lst (SqL.of (s _ _ x15)) (tolds_dp (L2.Paired.mapP p15 fun l sp h => s _ _ h))
                refine ⟨_, rfl, _, _, dpC, dpD, shaped_of sh (by decide), shaped_of sh (by decide), ?_⟩
                rw [SeqAt.eqv_refl _ sh.1]
                exact k H16
end
end PR
set_option Elab.async false
set_option maxRecDepth 100000
set_option linter.all false
/-! What the head's facts give, one by one. -/
namespace PR
open PySem PySem.Spec PyProof.Rows L2
section
variable {K : PySem.W.Frag} {h : Heap} {mg : Str → Option Value} {Goal : Prop}
theorem cls_go {n : Str} {C : Addr} (X : K.In h) (G : h.Ns mainGlobals mg) (a : PySem.W.nsIn K mainGlobals n = some (some (.ref C))) (pg : PySem.W.plainGet K C Str.empty = true) (hd : PySem.W.hasDictIn K C = true) (po : PySem.W.plainOver K C = true)
    (sa : PySem.W.findIn K (.ref C) "__setattr__" = some (some (.builtin "object.__setattr__"))) (next : mg n = some (.ref C) → Cls K C → Goal) : Goal := next (PySem.W.mg_of X G a) ⟨pg, hd, po, sa⟩
theorem name_go {n : Str} {C : Addr} (X : K.In h) (G : h.Ns mainGlobals mg) (a : PySem.W.nsIn K mainGlobals n = some (some (.ref C))) (next : mg n = some (.ref C) → Goal) : Goal := next (PySem.W.mg_of X G a)
theorem str_go {n : Str} {z : Str} {t : Tok} (X : K.In h) (G : h.Ns mainGlobals mg) (a : PySem.W.nsIn K mainGlobals n = some (some (.str z t))) (next : (∃ u, mg n = some u ∧ RelV (.str z) u) → Goal) : Goal := next ⟨_, PySem.W.mg_of X G a, t, rfl⟩
theorem int_go {n : Str} {z : Int} {t : Tok} (X : K.In h) (G : h.Ns mainGlobals mg) (a : PySem.W.nsIn K mainGlobals n = some (some (.int z t))) (next : (∃ u, mg n = some u ∧ RelV (.int z) u) → Goal) : Goal := next ⟨_, PySem.W.mg_of X G a, t, rfl⟩
theorem free_go {n : Str} (X : K.In h) (G : h.Ns mainGlobals mg) (a : PySem.W.nsIn K mainGlobals n = some none) (next : mg n = none → Goal) : Goal := next (PySem.W.mg_none_of X G a)
theorem defx_go {x : Str} {st : Stmt} {f : Addr} {oc : Value} {od an : Option Addr} {osl : Array (Option Value)} {kV doc pm cdv ct : Value} (X : K.In h) (G : h.Ns mainGlobals mg) (a : PySem.W.nsIn K mainGlobals x = some (some (.ref f)))
    (l : K.lookup f = some ⟨oc, od, .func (PySem.W.fnOf x x (defArgs st) (defBody st) (defScope st) .none kV doc pm an cdv ct), osl⟩) (c : PySem.W.codeIn K cdv x = true) (k : PySem.W.keepIn K (.ref f) = true) (next : DefX K mg x st → Goal) : Goal :=
  next ⟨f, _, fun_mk l c k, PySem.W.mg_of X G a⟩
theorem meth_go {n m qual : Str} {st : Stmt} {C f : Addr} {oc : Value} {od an : Option Addr} {osl : Array (Option Value)} {kV doc pm cdv ct : Value} (X : K.In h) (mC : mg n = some (.ref C)) (a : PySem.W.findIn K (.ref C) m = some (some (.ref f))) (i : PySem.W.isFn K (.ref f) = true)
    (l : K.lookup f = some ⟨oc, od, .func (PySem.W.fnOf m qual (defArgs st) (defBody st) (defScope st) .none kV doc pm an cdv ct), osl⟩) (c : PySem.W.codeIn K cdv qual = true) (k : PySem.W.keepIn K (.ref f) = true) (next : MethX K C m qual st → Goal) : Goal :=
  next ⟨f, _, ⟨a, i, k⟩, fun_mk l c k⟩
theorem mak_go {n qual : Str} {st : Stmt} {C f : Addr} {oc : Value} {od an : Option Addr} {osl : Array (Option Value)} {kV doc pm cdv ct : Value} (X : K.In h) (mC : mg n = some (.ref C)) (a : PySem.W.findIn K (.ref C) "__init__" = some (some (.ref f))) (i : PySem.W.isFn K (.ref f) = true)
    (mk : PySem.W.makesIn K C = true) (kc : PySem.W.keepIn K (.ref C) = true)
    (l : K.lookup f = some ⟨oc, od, .func (PySem.W.fnOf "__init__" qual (defArgs st) (defBody st) (defScope st) .none kV doc pm an cdv ct), osl⟩) (c : PySem.W.codeIn K cdv qual = true) (k : PySem.W.keepIn K (.ref f) = true) (next : MakX K C qual st → Goal) : Goal :=
  next ⟨f, _, ⟨mk, a, i, kc⟩, fun_mk l c k⟩
theorem ini_go {n qual : Str} {st : Stmt} {C f : Addr} {oc : Value} {od an : Option Addr} {osl : Array (Option Value)} {kV doc pm cdv ct : Value} (X : K.In h) (mC : mg n = some (.ref C)) (a : PySem.W.findIn K (.ref C) "__init__" = some (some (.ref f))) (i : PySem.W.typeIn K (.ref f) = some (.type "function"))
    (l : K.lookup f = some ⟨oc, od, .func (PySem.W.fnOf "__init__" qual (defArgs st) (defBody st) (defScope st) .none kV doc pm an cdv ct), osl⟩) (c : PySem.W.codeIn K cdv qual = true) (k : PySem.W.keepIn K (.ref f) = true) (next : IniX K C qual st → Goal) : Goal :=
  next ⟨f, _, a, i, fun_mk l c k⟩
theorem oex_go {n : Str} {C : Addr} {nm q N bs bm sn sub ab col dd k0 k1 k2 k3 k5} (X : K.In h) (mC : mg n = some (.ref C)) (xl : K.lookup C = some (excClassObj nm q C N bs bm true sn sub ab col dd k0 k1 k2 k3 k5 "ValueError.__new__"))
    (xr : PySem.HandSPX.refsVE bm = true) (sa : PySem.W.findIn K (.ref C) "__setattr__" = some (some (.builtin "object.__setattr__"))) (ex : PySem.W.subIn K (.ref C) (.type "BaseException") = some true) (ty : PySem.W.typeIn K (.ref C) = some (.type "type")) (kc : PySem.W.keepIn K (.ref C) = true) (next : OexC K C → Goal) : Goal :=
  next ⟨⟨nm, q, N, bs, bm, sn, sub, ab, col, dd, k0, k1, k2, k3, k5, xl, xr⟩, sa, ex, ty, kc⟩
theorem attr_go {n f : Str} {C : Addr} (X : K.In h) (mC : mg n = some (.ref C)) (a : PySem.W.findIn K (.ref C) f = some none) (next : NoAttr K C f → Goal) : Goal := next a
theorem kdc_go {n : Str} {C : Addr} (X : K.In h) (mC : mg n = some (.ref C)) (cl : Cls K C) (ha : PySem.W.findIn K (.ref C) "__class__" = some (some (.builtin "object.__class__")))
    (hn : PySem.W.specialIn K (.builtin "object.__class__") "__get__" = some (some (.builtin "getset_descriptor.__get__"))) (ht : PySem.W.takesIn K (.builtin "object.__class__") = some true) (hm : PySem.W.mroIn K C (.type "object") = some true) (next : KdC K C → Goal) : Goal := next ⟨cl, ha, hn, ht, hm⟩
theorem sub_kit {A B : Addr} {b : Bool} (i : PySem.W.isClsIn K B = true) (t : PySem.W.typeIn K (.ref B) = some (.type "type")) (e : PySem.W.subIn K (.ref A) (.ref B) = some b) : PySem.W.kitCls K (.ref A) (.ref B) = some b := by
  have i : (PySem.W.clsIn K B).isSome = true := i
  show (if ((PySem.W.clsIn K B).isSome && PySem.W.typeIn K (.ref B) == some (.type "type")) = true then PySem.W.subIn K (.ref A) (.ref B) else none) = _
  rw [i, t, e]
  rfl
theorem kit_go {n m : Str} {A B : Addr} (X : K.In h) (mA : mg n = some (.ref A)) (mB : mg m = some (.ref B)) (i : PySem.W.isClsIn K B = true) (t : PySem.W.typeIn K (.ref B) = some (.type "type")) (e : PySem.W.subIn K (.ref A) (.ref B) = some true)
    (next : PySem.W.kitOne K (.ref A) (.ref B) = some true → Goal) : Goal := next (by
  unfold PySem.W.kitOne
  split
  · rfl
  · exact sub_kit i t e)
theorem kitF_go {n m : Str} {A B : Addr} (X : K.In h) (mA : mg n = some (.ref A)) (mB : mg m = some (.ref B)) (i : PySem.W.isClsIn K B = true) (t : PySem.W.typeIn K (.ref B) = some (.type "type")) (e : PySem.W.subIn K (.ref A) (.ref B) = some false) (ne : ((Value.ref A) == (Value.ref B)) = false)
    (next : PySem.W.kitOne K (.ref A) (.ref B) = some false → Goal) : Goal := next (by
  unfold PySem.W.kitOne
  rw [ne]
  exact sub_kit i t e)
theorem kitT_go {n : Str} {t : String} {A : Addr} (X : K.In h) (mA : mg n = some (.ref A)) (km : PySem.W.kitMeta t = true) (e : PySem.W.subIn K (.ref A) (.type t) = some true) (next : PySem.W.kitOne K (.ref A) (.type t) = some true → Goal) : Goal := next (by
  unfold PySem.W.kitOne
  split
  · rfl
  · show (if PySem.W.kitMeta t = true then PySem.W.subIn K (.ref A) (.type t) else none) = _
    rw [km, e]
    rfl)
theorem new_go {n : Str} {C : Addr} (X : K.In h) (mC : mg n = some (.ref C)) (mk : PySem.W.makesIn K C = true) (i : PySem.W.findIn K (.ref C) "__init__" = some (some (.builtin "object.__init__"))) (kc : PySem.W.keepIn K (.ref C) = true) (next : New0 K C → Goal) : Goal := next ⟨mk, i, kc⟩
theorem keep_go {n : Str} {C : Addr} (X : K.In h) (mC : mg n = some (.ref C)) (ic : PySem.W.isClsIn K C = true) (hg : PySem.W.findIn K (.ref C) "__getattribute__" = some (some (.builtin "BaseException.__getattribute__"))) (hk : PySem.W.findIn K (.ref C) "__getattr__" = some none)
    (hs : PySem.W.subIn K (.ref C) (.type "BaseException") = some true) (hd : PySem.W.hasDictIn K C = true) (ha : PySem.W.findIn K (.ref C) "__class__" = some (some (.builtin "object.__class__")))
    (hn : PySem.W.specialIn K (.builtin "object.__class__") "__get__" = some (some (.builtin "getset_descriptor.__get__"))) (ht : PySem.W.takesIn K (.builtin "object.__class__") = some true) (hm : PySem.W.mroIn K C (.type "object") = some true) (next : KeepC K C → Goal) : Goal := next ⟨ic, hg, hk, hs, hd, ha, hn, ht, hm⟩
theorem bas_go {n : Str} {C : Addr} (X : K.In h) (mC : mg n = some (.ref C)) (ga : PySem.W.specialIn K (.ref C) "__getattribute__" = some (some (.builtin "type.__getattribute__"))) (rd : PySem.W.readsIn K C (.type "type") = true)
    (fd : PySem.W.findCls K (.ref C) (.type "type") "__init__" = some (.val (.builtin "ValueError.__init__"))) (next : BaseInit K C → Goal) : Goal := next ⟨ga, rd, fd⟩
theorem exm_go {n : Str} {C : Addr} (X : K.In h) (mC : mg n = some (.ref C)) (x : PySem.W.subIn K (.ref C) (.type "BaseException") = some true) (i : PySem.W.isClsIn K C = true) (t : PySem.W.typeIn K (.ref C) = some (.type "type")) (e : PySem.W.subIn K (.ref C) (.ref C) = some true)
    (next : PySem.W.exmOne K (.ref C) (.ref C) = some true → Goal) : Goal := next (by
  unfold PySem.W.exmOne
  rw [x]
  exact sub_kit i t e)
/-- equal kinds, equal classes -/
theorem kitK_of {c : Cs} (e : ∀ a b : Kd, PySem.W.kitOne K (.ref (c.k a)) (.ref (c.k b)) = some (match a, b with
    | .ny, .ny => true | .ah, .ah => true | .rd, .rd => true | .hm, .hm => true | _, _ => false)) : ∀ a b : Kd, PySem.W.kitOne K (.ref (c.k a)) (.ref (c.k b)) = some (decide (a = b)) := fun a b => by
  rw [e a b]
  cases a <;> cases b <;> rfl
/-- the law for one world -/
theorem law_at {P : Program} {w : World} {c : Cs} {fa : Addr} (T : Txt K mg c) (hfa : mg "law" = some (.ref fa)) :
    ∃ fd : FuncData, (∀ (s : Shared) (v : Value), BindsTo s fd ⟨[v], []⟩ [("_law_script", v)]) ∧ ∀ base : Heap, K.In base → base.Ns mainGlobals mg → FnOk P w K mg base C8.CX0 8 fa fd ["_law_script"] (spLaw K) := by
  obtain ⟨f, fd, F, hm⟩ := T.d_law.ex
  have e := hfa.symm.trans hm
  cases e
  obtain ⟨oc, od, kV, doc, pm, an, cdv, ct, osl, efd, lk, hcd⟩ := id F.ex
  refine ⟨fd, fun s v => ?_, fun base _ _ => ok_law T F⟩
  rw [efd]
  exact .of_eq rfl
end
theorem walk {l : PySem.W.OpenLaw} {q : Program} {loose : List Str} {XP : (Str → Option Value) → Heap → Prop} {YP : World → Heap → Prop} {d : DefRec} {K : Params → PySem.W.Frag} (hn : l.most = some 63) (hdf : d.params.defaults = [])
    (hY : ∀ (w : World) (h : Heap), YP w h → (K w.params).In h)
    (F : ∀ (w : World) (mg : Str → Option Value) (fa : Addr) (h : Heap), (K w.params).In h → h.Ns mainGlobals mg → mg d.name = some (.ref fa) →
      ∃ fd : FuncData, (∀ (s : Shared) (u : Value), BindsTo s fd ⟨[u], []⟩ [("_law_script", u)]) ∧ ∀ base : Heap, (K w.params).In base → base.Ns mainGlobals mg → FnOk l.prog w (K w.params) mg base C8.CX0 8 fa fd ["_law_script"] (spLaw (K w.params))) :
    PySem.W.WalkO q loose XP YP l.row.toRowW d [] (fun f vs => PySem.call f vs) :=
  L2.walk_of (n := 63) (k := 8) (x := "_law_script") (CX := fun _ => C8.CX0) (sp := fun w => spLaw (K w.params)) hn (by decide) hdf ⟨rfl, by decide, by decide⟩ hY F (fun _ _ a ns hl _ hS => ⟨a, ns, rfl, hS, by omega, fun _ => rfl⟩) fun _ _ _ _ _ z => z
end PR
set_option Elab.async false
set_option maxRecDepth 100000
set_option linter.all false
open PySem PySem.W PyProof.Rows
set_option maxHeartbeats 0 in
theorem PySem.Challenge.cw_postroad_k74_whole_log_walked_holds : PySem.Challenge.rw_postroad_k74_whole_log_walked.Holds := by
  w_on; o_law; k_head; (case hw => w_witness2)
  k_fill
  refine PR.walk (l := PySem.Challenge.rw_postroad_k74_whole_log_walked) rfl rfl (fun w h Y => PySem.W.kIn_of Y) ?F
  case F =>
    intro w mg fa h KX G hmg
    refine' PR.cls_go (n := "Net") KX G ?a ?pg ?hd ?po ?sa (fun m_Net cl_Net => ?_)
    (case a => k_is)
    (case pg => k_is)
    (case hd => k_is)
    (case po => k_is)
    (case sa => k_is)
    refine' PR.attr_go (f := "names") KX m_Net ?a (fun n_Net_names => ?_)
    (case a => k_is)
    refine' PR.attr_go (f := "lines") KX m_Net ?a (fun n_Net_lines => ?_)
    (case a => k_is)
    refine' PR.cls_go (n := "Ways") KX G ?a ?pg ?hd ?po ?sa (fun m_Ways cl_Ways => ?_)
    (case a => k_is)
    (case pg => k_is)
    (case hd => k_is)
    (case po => k_is)
    (case sa => k_is)
    refine' PR.attr_go (f := "net") KX m_Ways ?a (fun n_Ways_net => ?_)
    (case a => k_is)
    refine' PR.attr_go (f := "told") KX m_Ways ?a (fun n_Ways_told => ?_)
    (case a => k_is)
    refine' PR.cls_go (n := "Day") KX G ?a ?pg ?hd ?po ?sa (fun m_Day cl_Day => ?_)
    (case a => k_is)
    (case pg => k_is)
    (case hd => k_is)
    (case po => k_is)
    (case sa => k_is)
    refine' PR.attr_go (f := "net") KX m_Day ?a (fun n_Day_net => ?_)
    (case a => k_is)
    refine' PR.attr_go (f := "turn") KX m_Day ?a (fun n_Day_turn => ?_)
    (case a => k_is)
    refine' PR.attr_go (f := "ways") KX m_Day ?a (fun n_Day_ways => ?_)
    (case a => k_is)
    refine' PR.attr_go (f := "posted") KX m_Day ?a (fun n_Day_posted => ?_)
    (case a => k_is)
    refine' PR.attr_go (f := "stood") KX m_Day ?a (fun n_Day_stood => ?_)
    (case a => k_is)
    refine' PR.attr_go (f := "closed") KX m_Day ?a (fun n_Day_closed => ?_)
    (case a => k_is)
    refine' PR.attr_go (f := "gone") KX m_Day ?a (fun n_Day_gone => ?_)
    (case a => k_is)
    refine' PR.cls_go (n := "Walk") KX G ?a ?pg ?hd ?po ?sa (fun m_Walk cl_Walk => ?_)
    (case a => k_is)
    (case pg => k_is)
    (case hd => k_is)
    (case po => k_is)
    (case sa => k_is)
    refine' PR.attr_go (f := "net") KX m_Walk ?a (fun n_Walk_net => ?_)
    (case a => k_is)
    refine' PR.attr_go (f := "posted") KX m_Walk ?a (fun n_Walk_posted => ?_)
    (case a => k_is)
    refine' PR.attr_go (f := "stood") KX m_Walk ?a (fun n_Walk_stood => ?_)
    (case a => k_is)
    refine' PR.attr_go (f := "last") KX m_Walk ?a (fun n_Walk_last => ?_)
    (case a => k_is)
    refine' PR.cls_go (n := "AtHouse") KX G ?a ?pg ?hd ?po ?sa (fun m_AtHouse cl_AtHouse => ?_)
    (case a => k_is)
    (case pg => k_is)
    (case hd => k_is)
    (case po => k_is)
    (case sa => k_is)
    refine' PR.attr_go (f := "at") KX m_AtHouse ?a (fun n_AtHouse_at => ?_)
    (case a => k_is)
    refine' PR.attr_go (f := "since") KX m_AtHouse ?a (fun n_AtHouse_since => ?_)
    (case a => k_is)
    refine' PR.cls_go (n := "OnRoad") KX G ?a ?pg ?hd ?po ?sa (fun m_OnRoad cl_OnRoad => ?_)
    (case a => k_is)
    (case pg => k_is)
    (case hd => k_is)
    (case po => k_is)
    (case sa => k_is)
    refine' PR.attr_go (f := "by") KX m_OnRoad ?a (fun n_OnRoad_by => ?_)
    (case a => k_is)
    refine' PR.attr_go (f := "due") KX m_OnRoad ?a (fun n_OnRoad_due => ?_)
    (case a => k_is)
    refine' PR.cls_go (n := "AtHome") KX G ?a ?pg ?hd ?po ?sa (fun m_AtHome cl_AtHome => ?_)
    (case a => k_is)
    (case pg => k_is)
    (case hd => k_is)
    (case po => k_is)
    (case sa => k_is)
    refine' PR.attr_go (f := "since") KX m_AtHome ?a (fun n_AtHome_since => ?_)
    (case a => k_is)
    refine' PR.cls_go (n := "NotYet") KX G ?a ?pg ?hd ?po ?sa (fun m_NotYet cl_NotYet => ?_)
    (case a => k_is)
    (case pg => k_is)
    (case hd => k_is)
    (case po => k_is)
    (case sa => k_is)
    refine' PR.name_go (n := "Spot") KX G ?a (fun m_Spot => ?_)
    (case a => k_is)
    refine' PR.name_go (n := "RoadError") KX G ?a (fun m_RoadError => ?_)
    (case a => k_is)
    refine' PR.name_go (n := "NoLetter") KX G ?a (fun m_NoLetter => ?_)
    (case a => k_is)
    refine' PR.str_go (n := "SMALL") (z := "abcdefghijklmnopqrstuvwxyz") KX G ?a (fun g_SMALL => ?_)
    (case a => k_is)
    refine' PR.int_go (n := "MOST_HOUSES") (z := 12) KX G ?a (fun g_MOST_HOUSES => ?_)
    (case a => k_is)
    refine' PR.int_go (n := "MOST_ROADS") (z := 40) KX G ?a (fun g_MOST_ROADS => ?_)
    (case a => k_is)
    refine' PR.int_go (n := "LONGEST") (z := 9) KX G ?a (fun g_LONGEST => ?_)
    (case a => k_is)
    refine' PR.int_go (n := "WIDEST") (z := 1000000000) KX G ?a (fun g_WIDEST => ?_)
    (case a => k_is)
    refine' PR.int_go (n := "MOST_LETTERS") (z := 40) KX G ?a (fun g_MOST_LETTERS => ?_)
    (case a => k_is)
    refine' PR.int_go (n := "LATEST") (z := 1000000000) KX G ?a (fun g_LATEST => ?_)
    (case a => k_is)
    refine' PR.int_go (n := "WIDEST_SPAN") (z := 30) KX G ?a (fun g_WIDEST_SPAN => ?_)
    (case a => k_is)
    refine' PR.free_go (n := "int") KX G ?a (fun b_int => ?_)
    (case a => k_is)
    refine' PR.free_go (n := "str") KX G ?a (fun b_str => ?_)
    (case a => k_is)
    refine' PR.free_go (n := "bool") KX G ?a (fun b_bool => ?_)
    (case a => k_is)
    refine' PR.free_go (n := "list") KX G ?a (fun b_list => ?_)
    (case a => k_is)
    refine' PR.free_go (n := "tuple") KX G ?a (fun b_tuple => ?_)
    (case a => k_is)
    refine' PR.free_go (n := "ValueError") KX G ?a (fun b_ValueError => ?_)
    (case a => k_is)
    refine' PR.free_go (n := "len") KX G ?a (fun b_len => ?_)
    (case a => k_is)
    refine' PR.free_go (n := "isinstance") KX G ?a (fun b_isinstance => ?_)
    (case a => k_is)
    refine' PR.free_go (n := "all") KX G ?a (fun b_all => ?_)
    (case a => k_is)
    refine' PR.free_go (n := "sum") KX G ?a (fun b_sum => ?_)
    (case a => k_is)
    refine' PR.free_go (n := "max") KX G ?a (fun b_max => ?_)
    (case a => k_is)
    refine' PR.free_go (n := "min") KX G ?a (fun b_min => ?_)
    (case a => k_is)
    refine' PR.free_go (n := "sorted") KX G ?a (fun b_sorted => ?_)
    (case a => k_is)
    refine' PR.free_go (n := "range") KX G ?a (fun b_range => ?_)
    (case a => k_is)
    refine' PR.free_go (n := "enumerate") KX G ?a (fun b_enumerate => ?_)
    (case a => k_is)
    refine' PR.free_go (n := "zip") KX G ?a (fun b_zip => ?_)
    (case a => k_is)
    refine' PR.free_go (n := "set") KX G ?a (fun b_set => ?_)
    (case a => k_is)
    refine' PR.ini_go (st := PR.s_NoLetter_init) (qual := "NoLetter.__init__") KX m_NoLetter ?a ?i ?l ?c ?k (fun d_NoLetter_init => ?_)
    (case a => k_is)
    (case i => k_is)
    (case l => k_is)
    (case c => k_is)
    (case k => k_is)
    refine' PR.defx_go (x := "is_whole") (st := PR.s_is_whole) KX G ?a ?l ?c ?k (fun d_is_whole => ?_)
    (case a => k_is)
    (case l => k_is)
    (case c => k_is)
    (case k => k_is)
    refine' PR.defx_go (x := "is_name") (st := PR.s_is_name) KX G ?a ?l ?c ?k (fun d_is_name => ?_)
    (case a => k_is)
    (case l => k_is)
    (case c => k_is)
    (case k => k_is)
    refine' PR.defx_go (x := "are_houses") (st := PR.s_are_houses) KX G ?a ?l ?c ?k (fun d_are_houses => ?_)
    (case a => k_is)
    (case l => k_is)
    (case c => k_is)
    (case k => k_is)
    refine' PR.defx_go (x := "is_road") (st := PR.s_is_road) KX G ?a ?l ?c ?k (fun d_is_road => ?_)
    (case a => k_is)
    (case l => k_is)
    (case c => k_is)
    (case k => k_is)
    refine' PR.mak_go (st := PR.s_Net_init) (qual := "Net.__init__") KX m_Net ?a ?i ?mk ?kc ?l ?c ?k (fun d_Net_init => ?_)
    (case a => k_is)
    (case i => k_is)
    (case mk => k_is)
    (case kc => k_is)
    (case l => k_is)
    (case c => k_is)
    (case k => k_is)
    refine' PR.meth_go (st := PR.s_Net_houses) (m := "houses") (qual := "Net.houses") KX m_Net ?a ?i ?l ?c ?k (fun d_Net_houses => ?_)
    (case a => k_is)
    (case i => k_is)
    (case l => k_is)
    (case c => k_is)
    (case k => k_is)
    refine' PR.meth_go (st := PR.s_Net_roads) (m := "roads") (qual := "Net.roads") KX m_Net ?a ?i ?l ?c ?k (fun d_Net_roads => ?_)
    (case a => k_is)
    (case i => k_is)
    (case l => k_is)
    (case c => k_is)
    (case k => k_is)
    refine' PR.meth_go (st := PR.s_Net_road) (m := "road") (qual := "Net.road") KX m_Net ?a ?i ?l ?c ?k (fun d_Net_road => ?_)
    (case a => k_is)
    (case i => k_is)
    (case l => k_is)
    (case c => k_is)
    (case k => k_is)
    refine' PR.meth_go (st := PR.s_Net_known) (m := "known") (qual := "Net.known") KX m_Net ?a ?i ?l ?c ?k (fun d_Net_known => ?_)
    (case a => k_is)
    (case i => k_is)
    (case l => k_is)
    (case c => k_is)
    (case k => k_is)
    refine' PR.meth_go (st := PR.s_Net_out_of) (m := "out_of") (qual := "Net.out_of") KX m_Net ?a ?i ?l ?c ?k (fun d_Net_out_of => ?_)
    (case a => k_is)
    (case i => k_is)
    (case l => k_is)
    (case c => k_is)
    (case k => k_is)
    refine' PR.defx_go (x := "fars") (st := PR.s_fars) KX G ?a ?l ?c ?k (fun d_fars => ?_)
    (case a => k_is)
    (case l => k_is)
    (case c => k_is)
    (case k => k_is)
    refine' PR.defx_go (x := "is_letter") (st := PR.s_is_letter) KX G ?a ?l ?c ?k (fun d_is_letter => ?_)
    (case a => k_is)
    (case l => k_is)
    (case c => k_is)
    (case k => k_is)
    refine' PR.defx_go (x := "letters_of") (st := PR.s_letters_of) KX G ?a ?l ?c ?k (fun d_letters_of => ?_)
    (case a => k_is)
    (case l => k_is)
    (case c => k_is)
    (case k => k_is)
    refine' PR.mak_go (st := PR.s_AtHouse_init) (qual := "AtHouse.__init__") KX m_AtHouse ?a ?i ?mk ?kc ?l ?c ?k (fun d_AtHouse_init => ?_)
    (case a => k_is)
    (case i => k_is)
    (case mk => k_is)
    (case kc => k_is)
    (case l => k_is)
    (case c => k_is)
    (case k => k_is)
    refine' PR.mak_go (st := PR.s_OnRoad_init) (qual := "OnRoad.__init__") KX m_OnRoad ?a ?i ?mk ?kc ?l ?c ?k (fun d_OnRoad_init => ?_)
    (case a => k_is)
    (case i => k_is)
    (case mk => k_is)
    (case kc => k_is)
    (case l => k_is)
    (case c => k_is)
    (case k => k_is)
    refine' PR.mak_go (st := PR.s_AtHome_init) (qual := "AtHome.__init__") KX m_AtHome ?a ?i ?mk ?kc ?l ?c ?k (fun d_AtHome_init => ?_)
    (case a => k_is)
    (case i => k_is)
    (case mk => k_is)
    (case kc => k_is)
    (case l => k_is)
    (case c => k_is)
    (case k => k_is)
    refine' PR.defx_go (x := "later") (st := PR.s_later) KX G ?a ?l ?c ?k (fun d_later => ?_)
    (case a => k_is)
    (case l => k_is)
    (case c => k_is)
    (case k => k_is)
    refine' PR.defx_go (x := "going") (st := PR.s_going) KX G ?a ?l ?c ?k (fun d_going => ?_)
    (case a => k_is)
    (case l => k_is)
    (case c => k_is)
    (case k => k_is)
    refine' PR.defx_go (x := "bags_of") (st := PR.s_bags_of) KX G ?a ?l ?c ?k (fun d_bags_of => ?_)
    (case a => k_is)
    (case l => k_is)
    (case c => k_is)
    (case k => k_is)
    refine' PR.defx_go (x := "left_behind") (st := PR.s_left_behind) KX G ?a ?l ?c ?k (fun d_left_behind => ?_)
    (case a => k_is)
    (case l => k_is)
    (case c => k_is)
    (case k => k_is)
    refine' PR.mak_go (st := PR.s_Ways_init) (qual := "Ways.__init__") KX m_Ways ?a ?i ?mk ?kc ?l ?c ?k (fun d_Ways_init => ?_)
    (case a => k_is)
    (case i => k_is)
    (case mk => k_is)
    (case kc => k_is)
    (case l => k_is)
    (case c => k_is)
    (case k => k_is)
    refine' PR.meth_go (st := PR.s_Ways_need_pair) (m := "need_pair") (qual := "Ways.need_pair") KX m_Ways ?a ?i ?l ?c ?k (fun d_Ways_need_pair => ?_)
    (case a => k_is)
    (case i => k_is)
    (case l => k_is)
    (case c => k_is)
    (case k => k_is)
    refine' PR.meth_go (st := PR.s_Ways_set_way) (m := "set_way") (qual := "Ways.set_way") KX m_Ways ?a ?i ?l ?c ?k (fun d_Ways_set_way => ?_)
    (case a => k_is)
    (case i => k_is)
    (case l => k_is)
    (case c => k_is)
    (case k => k_is)
    refine' PR.meth_go (st := PR.s_Ways_drop_way) (m := "drop_way") (qual := "Ways.drop_way") KX m_Ways ?a ?i ?l ?c ?k (fun d_Ways_drop_way => ?_)
    (case a => k_is)
    (case i => k_is)
    (case l => k_is)
    (case c => k_is)
    (case k => k_is)
    refine' PR.defx_go (x := "shortest") (st := PR.s_shortest) KX G ?a ?l ?c ?k (fun d_shortest => ?_)
    (case a => k_is)
    (case l => k_is)
    (case c => k_is)
    (case k => k_is)
    refine' PR.defx_go (x := "is_first") (st := PR.s_is_first) KX G ?a ?l ?c ?k (fun d_is_first => ?_)
    (case a => k_is)
    (case l => k_is)
    (case c => k_is)
    (case k => k_is)
    refine' PR.mak_go (st := PR.s_Day_init) (qual := "Day.__init__") KX m_Day ?a ?i ?mk ?kc ?l ?c ?k (fun d_Day_init => ?_)
    (case a => k_is)
    (case i => k_is)
    (case mk => k_is)
    (case kc => k_is)
    (case l => k_is)
    (case c => k_is)
    (case k => k_is)
    refine' PR.meth_go (st := PR.s_Day_now) (m := "now") (qual := "Day.now") KX m_Day ?a ?i ?l ?c ?k (fun d_Day_now => ?_)
    (case a => k_is)
    (case i => k_is)
    (case l => k_is)
    (case c => k_is)
    (case k => k_is)
    refine' PR.meth_go (st := PR.s_Day_post) (m := "post") (qual := "Day.post") KX m_Day ?a ?i ?l ?c ?k (fun d_Day_post => ?_)
    (case a => k_is)
    (case i => k_is)
    (case l => k_is)
    (case c => k_is)
    (case k => k_is)
    refine' PR.meth_go (st := PR.s_Day_set_way) (m := "set_way") (qual := "Day.set_way") KX m_Day ?a ?i ?l ?c ?k (fun d_Day_set_way => ?_)
    (case a => k_is)
    (case i => k_is)
    (case l => k_is)
    (case c => k_is)
    (case k => k_is)
    refine' PR.meth_go (st := PR.s_Day_drop_way) (m := "drop_way") (qual := "Day.drop_way") KX m_Day ?a ?i ?l ?c ?k (fun d_Day_drop_way => ?_)
    (case a => k_is)
    (case i => k_is)
    (case l => k_is)
    (case c => k_is)
    (case k => k_is)
    refine' PR.meth_go (st := PR.s_Day_shut) (m := "shut") (qual := "Day.shut") KX m_Day ?a ?i ?l ?c ?k (fun d_Day_shut => ?_)
    (case a => k_is)
    (case i => k_is)
    (case l => k_is)
    (case c => k_is)
    (case k => k_is)
    refine' PR.meth_go (st := PR.s_Day_reopen) (m := "reopen") (qual := "Day.reopen") KX m_Day ?a ?i ?l ?c ?k (fun d_Day_reopen => ?_)
    (case a => k_is)
    (case i => k_is)
    (case l => k_is)
    (case c => k_is)
    (case k => k_is)
    refine' PR.meth_go (st := PR.s_Day_settle) (m := "settle") (qual := "Day.settle") KX m_Day ?a ?i ?l ?c ?k (fun d_Day_settle => ?_)
    (case a => k_is)
    (case i => k_is)
    (case l => k_is)
    (case c => k_is)
    (case k => k_is)
    refine' PR.meth_go (st := PR.s_Day_pass_turn) (m := "pass_turn") (qual := "Day.pass_turn") KX m_Day ?a ?i ?l ?c ?k (fun d_Day_pass_turn => ?_)
    (case a => k_is)
    (case i => k_is)
    (case l => k_is)
    (case c => k_is)
    (case k => k_is)
    refine' PR.meth_go (st := PR.s_Day_log) (m := "log") (qual := "Day.log") KX m_Day ?a ?i ?l ?c ?k (fun d_Day_log => ?_)
    (case a => k_is)
    (case i => k_is)
    (case l => k_is)
    (case c => k_is)
    (case k => k_is)
    refine' PR.meth_go (st := PR.s_Day_letters) (m := "letters") (qual := "Day.letters") KX m_Day ?a ?i ?l ?c ?k (fun d_Day_letters => ?_)
    (case a => k_is)
    (case i => k_is)
    (case l => k_is)
    (case c => k_is)
    (case k => k_is)
    refine' PR.meth_go (st := PR.s_Day_spot) (m := "spot") (qual := "Day.spot") KX m_Day ?a ?i ?l ?c ?k (fun d_Day_spot => ?_)
    (case a => k_is)
    (case i => k_is)
    (case l => k_is)
    (case c => k_is)
    (case k => k_is)
    refine' PR.defx_go (x := "is_number") (st := PR.s_is_number) KX G ?a ?l ?c ?k (fun d_is_number => ?_)
    (case a => k_is)
    (case l => k_is)
    (case c => k_is)
    (case k => k_is)
    refine' PR.defx_go (x := "is_bag") (st := PR.s_is_bag) KX G ?a ?l ?c ?k (fun d_is_bag => ?_)
    (case a => k_is)
    (case l => k_is)
    (case c => k_is)
    (case k => k_is)
    refine' PR.mak_go (st := PR.s_Walk_init) (qual := "Walk.__init__") KX m_Walk ?a ?i ?mk ?kc ?l ?c ?k (fun d_Walk_init => ?_)
    (case a => k_is)
    (case i => k_is)
    (case mk => k_is)
    (case kc => k_is)
    (case l => k_is)
    (case c => k_is)
    (case k => k_is)
    refine' PR.meth_go (st := PR.s_Walk_lies_at) (m := "lies_at") (qual := "Walk.lies_at") KX m_Walk ?a ?i ?l ?c ?k (fun d_Walk_lies_at => ?_)
    (case a => k_is)
    (case i => k_is)
    (case l => k_is)
    (case c => k_is)
    (case k => k_is)
    refine' PR.meth_go (st := PR.s_Walk_are_letters) (m := "are_letters") (qual := "Walk.are_letters") KX m_Walk ?a ?i ?l ?c ?k (fun d_Walk_are_letters => ?_)
    (case a => k_is)
    (case i => k_is)
    (case l => k_is)
    (case c => k_is)
    (case k => k_is)
    refine' PR.meth_go (st := PR.s_Walk_amiss) (m := "amiss") (qual := "Walk.amiss") KX m_Walk ?a ?i ?l ?c ?k (fun d_Walk_amiss => ?_)
    (case a => k_is)
    (case i => k_is)
    (case l => k_is)
    (case c => k_is)
    (case k => k_is)
    refine' PR.meth_go (st := PR.s_Walk_send) (m := "send") (qual := "Walk.send") KX m_Walk ?a ?i ?l ?c ?k (fun d_Walk_send => ?_)
    (case a => k_is)
    (case i => k_is)
    (case l => k_is)
    (case c => k_is)
    (case k => k_is)
    refine' PR.defx_go (x := "stops_at") (st := PR.s_stops_at) KX G ?a ?l ?c ?k (fun d_stops_at => ?_)
    (case a => k_is)
    (case l => k_is)
    (case c => k_is)
    (case k => k_is)
    refine' PR.defx_go (x := "spots_at") (st := PR.s_spots_at) KX G ?a ?l ?c ?k (fun d_spots_at => ?_)
    (case a => k_is)
    (case l => k_is)
    (case c => k_is)
    (case k => k_is)
    refine' PR.defx_go (x := "_law_cell_at") (st := PR.s__law_cell_at) KX G ?a ?l ?c ?k (fun d__law_cell_at => ?_)
    (case a => k_is)
    (case l => k_is)
    (case c => k_is)
    (case k => k_is)
    refine' PR.defx_go (x := "_law_houses") (st := PR.s__law_houses) KX G ?a ?l ?c ?k (fun d__law_houses => ?_)
    (case a => k_is)
    (case l => k_is)
    (case c => k_is)
    (case k => k_is)
    refine' PR.defx_go (x := "_law_road") (st := PR.s__law_road) KX G ?a ?l ?c ?k (fun d__law_road => ?_)
    (case a => k_is)
    (case l => k_is)
    (case c => k_is)
    (case k => k_is)
    refine' PR.defx_go (x := "_law_change") (st := PR.s__law_change) KX G ?a ?l ?c ?k (fun d__law_change => ?_)
    (case a => k_is)
    (case l => k_is)
    (case c => k_is)
    (case k => k_is)
    refine' PR.defx_go (x := "_law_told") (st := PR.s__law_told) KX G ?a ?l ?c ?k (fun d__law_told => ?_)
    (case a => k_is)
    (case l => k_is)
    (case c => k_is)
    (case k => k_is)
    refine' PR.defx_go (x := "_law_bag_fits") (st := PR.s__law_bag_fits) KX G ?a ?l ?c ?k (fun d__law_bag_fits => ?_)
    (case a => k_is)
    (case l => k_is)
    (case c => k_is)
    (case k => k_is)
    refine' PR.defx_go (x := "_law_due") (st := PR.s__law_due) KX G ?a ?l ?c ?k (fun d__law_due => ?_)
    (case a => k_is)
    (case l => k_is)
    (case c => k_is)
    (case k => k_is)
    refine' PR.defx_go (x := "_law_walked") (st := PR.s__law_walked) KX G ?a ?l ?c ?k (fun d__law_walked => ?_)
    (case a => k_is)
    (case l => k_is)
    (case c => k_is)
    (case k => k_is)
    refine' PR.defx_go (x := "_law_nobody") (st := PR.s__law_nobody) KX G ?a ?l ?c ?k (fun d__law_nobody => ?_)
    (case a => k_is)
    (case l => k_is)
    (case c => k_is)
    (case k => k_is)
    refine' PR.defx_go (x := "_law_turns") (st := PR.s__law_turns) KX G ?a ?l ?c ?k (fun d__law_turns => ?_)
    (case a => k_is)
    (case l => k_is)
    (case c => k_is)
    (case k => k_is)
    refine' PR.defx_go (x := "_law_noted") (st := PR.s__law_noted) KX G ?a ?l ?c ?k (fun d__law_noted => ?_)
    (case a => k_is)
    (case l => k_is)
    (case c => k_is)
    (case k => k_is)
    refine' PR.defx_go (x := "_law_spot_right") (st := PR.s__law_spot_right) KX G ?a ?l ?c ?k (fun d__law_spot_right => ?_)
    (case a => k_is)
    (case l => k_is)
    (case c => k_is)
    (case k => k_is)
    refine' PR.defx_go (x := "law") (st := PR.s_law) KX G ?a ?l ?c ?k (fun d_law => ?_)
    (case a => k_is)
    (case l => k_is)
    (case c => k_is)
    (case k => k_is)
    refine' PR.new_go KX m_NotYet ?mk ?i ?kc (fun new_NotYet => ?_)
    (case mk => k_is)
    (case i => k_is)
    (case kc => k_is)
    refine' PR.kdc_go KX m_NotYet cl_NotYet ?ha ?hn ?ht ?hm (fun kI_ny => ?_)
    (case ha => k_is)
    (case hn => k_is)
    (case ht => k_is)
    (case hm => k_is)
    refine' PR.kdc_go KX m_AtHouse cl_AtHouse ?ha ?hn ?ht ?hm (fun kI_ah => ?_)
    (case ha => k_is)
    (case hn => k_is)
    (case ht => k_is)
    (case hm => k_is)
    refine' PR.kdc_go KX m_OnRoad cl_OnRoad ?ha ?hn ?ht ?hm (fun kI_rd => ?_)
    (case ha => k_is)
    (case hn => k_is)
    (case ht => k_is)
    (case hm => k_is)
    refine' PR.kdc_go KX m_AtHome cl_AtHome ?ha ?hn ?ht ?hm (fun kI_hm => ?_)
    (case ha => k_is)
    (case hn => k_is)
    (case ht => k_is)
    (case hm => k_is)
    refine' PR.kit_go KX m_NotYet m_NotYet ?i ?t ?e (fun k_ny_ny => ?_)
    (case i => k_is)
    (case t => k_is)
    (case e => k_is)
    refine' PR.kitF_go KX m_NotYet m_AtHouse ?i ?t ?e ?ne (fun k_ny_ah => ?_)
    (case i => k_is)
    (case t => k_is)
    (case e => k_is)
    (case ne => decide +kernel)
    refine' PR.kitF_go KX m_NotYet m_OnRoad ?i ?t ?e ?ne (fun k_ny_rd => ?_)
    (case i => k_is)
    (case t => k_is)
    (case e => k_is)
    (case ne => decide +kernel)
    refine' PR.kitF_go KX m_NotYet m_AtHome ?i ?t ?e ?ne (fun k_ny_hm => ?_)
    (case i => k_is)
    (case t => k_is)
    (case e => k_is)
    (case ne => decide +kernel)
    refine' PR.kitF_go KX m_AtHouse m_NotYet ?i ?t ?e ?ne (fun k_ah_ny => ?_)
    (case i => k_is)
    (case t => k_is)
    (case e => k_is)
    (case ne => decide +kernel)
    refine' PR.kit_go KX m_AtHouse m_AtHouse ?i ?t ?e (fun k_ah_ah => ?_)
    (case i => k_is)
    (case t => k_is)
    (case e => k_is)
    refine' PR.kitF_go KX m_AtHouse m_OnRoad ?i ?t ?e ?ne (fun k_ah_rd => ?_)
    (case i => k_is)
    (case t => k_is)
    (case e => k_is)
    (case ne => decide +kernel)
    refine' PR.kitF_go KX m_AtHouse m_AtHome ?i ?t ?e ?ne (fun k_ah_hm => ?_)
    (case i => k_is)
    (case t => k_is)
    (case e => k_is)
    (case ne => decide +kernel)
    refine' PR.kitF_go KX m_OnRoad m_NotYet ?i ?t ?e ?ne (fun k_rd_ny => ?_)
    (case i => k_is)
    (case t => k_is)
    (case e => k_is)
    (case ne => decide +kernel)
    refine' PR.kitF_go KX m_OnRoad m_AtHouse ?i ?t ?e ?ne (fun k_rd_ah => ?_)
    (case i => k_is)
    (case t => k_is)
    (case e => k_is)
    (case ne => decide +kernel)
    refine' PR.kit_go KX m_OnRoad m_OnRoad ?i ?t ?e (fun k_rd_rd => ?_)
    (case i => k_is)
    (case t => k_is)
    (case e => k_is)
    refine' PR.kitF_go KX m_OnRoad m_AtHome ?i ?t ?e ?ne (fun k_rd_hm => ?_)
    (case i => k_is)
    (case t => k_is)
    (case e => k_is)
    (case ne => decide +kernel)
    refine' PR.kitF_go KX m_AtHome m_NotYet ?i ?t ?e ?ne (fun k_hm_ny => ?_)
    (case i => k_is)
    (case t => k_is)
    (case e => k_is)
    (case ne => decide +kernel)
    refine' PR.kitF_go KX m_AtHome m_AtHouse ?i ?t ?e ?ne (fun k_hm_ah => ?_)
    (case i => k_is)
    (case t => k_is)
    (case e => k_is)
    (case ne => decide +kernel)
    refine' PR.kitF_go KX m_AtHome m_OnRoad ?i ?t ?e ?ne (fun k_hm_rd => ?_)
    (case i => k_is)
    (case t => k_is)
    (case e => k_is)
    (case ne => decide +kernel)
    refine' PR.kit_go KX m_AtHome m_AtHome ?i ?t ?e (fun k_hm_hm => ?_)
    (case i => k_is)
    (case t => k_is)
    (case e => k_is)
    refine' PR.kit_go KX m_NotYet m_Spot ?i ?t ?e (fun kS_ny => ?_)
    (case i => k_is)
    (case t => k_is)
    (case e => k_is)
    refine' PR.kit_go KX m_AtHouse m_Spot ?i ?t ?e (fun kS_ah => ?_)
    (case i => k_is)
    (case t => k_is)
    (case e => k_is)
    refine' PR.kit_go KX m_OnRoad m_Spot ?i ?t ?e (fun kS_rd => ?_)
    (case i => k_is)
    (case t => k_is)
    (case e => k_is)
    refine' PR.kit_go KX m_AtHome m_Spot ?i ?t ?e (fun kS_hm => ?_)
    (case i => k_is)
    (case t => k_is)
    (case e => k_is)
    refine' PR.keep_go KX m_NoLetter ?ic ?hg ?hk ?hs ?hd ?ha ?hn ?ht ?hm (fun exK => ?_)
    (case ic => k_is)
    (case hg => k_is)
    (case hk => k_is)
    (case hs => k_is)
    (case hd => k_is)
    (case ha => k_is)
    (case hn => k_is)
    (case ht => k_is)
    (case hm => k_is)
    refine' PR.bas_go KX m_RoadError ?ga ?rd ?fd (fun exB => ?_)
    (case ga => k_is)
    (case rd => k_is)
    (case fd => k_is)
    refine' PR.attr_go (f := "number") KX m_NoLetter ?a (fun exN => ?_)
    (case a => k_is)
    refine' PR.exm_go KX m_NoLetter ?x ?i ?t ?e (fun exM => ?_)
    (case x => k_is)
    (case i => k_is)
    (case t => k_is)
    (case e => k_is)
    refine' PR.kit_go KX m_NoLetter m_RoadError ?i ?t ?e (fun exR => ?_)
    (case i => k_is)
    (case t => k_is)
    (case e => k_is)
    refine' PR.kitT_go (t := "ValueError") KX m_NoLetter ?km ?e (fun exV => ?_)
    (case km => decide +kernel)
    (case e => k_is)
    refine' PR.oex_go KX m_NoLetter ?xl ?xr ?sa ?ex ?ty ?kc (fun exO => ?_)
    (case xl => k_is)
    (case xr => decide +kernel)
    (case sa => k_is)
    (case ex => k_is)
    (case ty => k_is)
    (case kc => k_is)
    exact PR.law_at (c := ⟨_, _, _, _, _, _, _, _, _, _, _⟩) {
      m_Net := m_Net,
      cl_Net := cl_Net,
      n_Net_names := n_Net_names,
      n_Net_lines := n_Net_lines,
      m_Ways := m_Ways,
      cl_Ways := cl_Ways,
      n_Ways_net := n_Ways_net,
      n_Ways_told := n_Ways_told,
      m_Day := m_Day,
      cl_Day := cl_Day,
      n_Day_net := n_Day_net,
      n_Day_turn := n_Day_turn,
      n_Day_ways := n_Day_ways,
      n_Day_posted := n_Day_posted,
      n_Day_stood := n_Day_stood,
      n_Day_closed := n_Day_closed,
      n_Day_gone := n_Day_gone,
      m_Walk := m_Walk,
      cl_Walk := cl_Walk,
      n_Walk_net := n_Walk_net,
      n_Walk_posted := n_Walk_posted,
      n_Walk_stood := n_Walk_stood,
      n_Walk_last := n_Walk_last,
      m_AtHouse := m_AtHouse,
      cl_AtHouse := cl_AtHouse,
      n_AtHouse_at := n_AtHouse_at,
      n_AtHouse_since := n_AtHouse_since,
      m_OnRoad := m_OnRoad,
      cl_OnRoad := cl_OnRoad,
      n_OnRoad_by := n_OnRoad_by,
      n_OnRoad_due := n_OnRoad_due,
      m_AtHome := m_AtHome,
      cl_AtHome := cl_AtHome,
      n_AtHome_since := n_AtHome_since,
      m_NotYet := m_NotYet,
      m_Spot := m_Spot,
      m_RoadError := m_RoadError,
      m_NoLetter := m_NoLetter,
      g_SMALL := g_SMALL,
      g_MOST_HOUSES := g_MOST_HOUSES,
      g_MOST_ROADS := g_MOST_ROADS,
      g_LONGEST := g_LONGEST,
      g_WIDEST := g_WIDEST,
      g_MOST_LETTERS := g_MOST_LETTERS,
      g_LATEST := g_LATEST,
      g_WIDEST_SPAN := g_WIDEST_SPAN,
      b_int := b_int,
      b_str := b_str,
      b_bool := b_bool,
      b_list := b_list,
      b_tuple := b_tuple,
      b_ValueError := b_ValueError,
      b_len := b_len,
      b_isinstance := b_isinstance,
      b_all := b_all,
      b_sum := b_sum,
      b_max := b_max,
      b_min := b_min,
      b_sorted := b_sorted,
      b_range := b_range,
      b_enumerate := b_enumerate,
      b_zip := b_zip,
      b_set := b_set,
      d_NoLetter_init := d_NoLetter_init,
      d_is_whole := d_is_whole,
      d_is_name := d_is_name,
      d_are_houses := d_are_houses,
      d_is_road := d_is_road,
      d_Net_init := d_Net_init,
      d_Net_houses := d_Net_houses,
      d_Net_roads := d_Net_roads,
      d_Net_road := d_Net_road,
      d_Net_known := d_Net_known,
      d_Net_out_of := d_Net_out_of,
      d_fars := d_fars,
      d_is_letter := d_is_letter,
      d_letters_of := d_letters_of,
      d_AtHouse_init := d_AtHouse_init,
      d_OnRoad_init := d_OnRoad_init,
      d_AtHome_init := d_AtHome_init,
      d_later := d_later,
      d_going := d_going,
      d_bags_of := d_bags_of,
      d_left_behind := d_left_behind,
      d_Ways_init := d_Ways_init,
      d_Ways_need_pair := d_Ways_need_pair,
      d_Ways_set_way := d_Ways_set_way,
      d_Ways_drop_way := d_Ways_drop_way,
      d_shortest := d_shortest,
      d_is_first := d_is_first,
      d_Day_init := d_Day_init,
      d_Day_now := d_Day_now,
      d_Day_post := d_Day_post,
      d_Day_set_way := d_Day_set_way,
      d_Day_drop_way := d_Day_drop_way,
      d_Day_shut := d_Day_shut,
      d_Day_reopen := d_Day_reopen,
      d_Day_settle := d_Day_settle,
      d_Day_pass_turn := d_Day_pass_turn,
      d_Day_log := d_Day_log,
      d_Day_letters := d_Day_letters,
      d_Day_spot := d_Day_spot,
      d_is_number := d_is_number,
      d_is_bag := d_is_bag,
      d_Walk_init := d_Walk_init,
      d_Walk_lies_at := d_Walk_lies_at,
      d_Walk_are_letters := d_Walk_are_letters,
      d_Walk_amiss := d_Walk_amiss,
      d_Walk_send := d_Walk_send,
      d_stops_at := d_stops_at,
      d_spots_at := d_spots_at,
      d__law_cell_at := d__law_cell_at,
      d__law_houses := d__law_houses,
      d__law_road := d__law_road,
      d__law_change := d__law_change,
      d__law_told := d__law_told,
      d__law_bag_fits := d__law_bag_fits,
      d__law_due := d__law_due,
      d__law_walked := d__law_walked,
      d__law_nobody := d__law_nobody,
      d__law_turns := d__law_turns,
      d__law_noted := d__law_noted,
      d__law_spot_right := d__law_spot_right,
      d_law := d_law,
      new_NotYet := new_NotYet,
      kitI := fun a => match a with | .ny => kI_ny | .ah => kI_ah | .rd => kI_rd | .hm => kI_hm,
      kitK := PR.kitK_of fun a b => match a, b with | .ny, .ny => k_ny_ny | .ny, .ah => k_ny_ah | .ny, .rd => k_ny_rd | .ny, .hm => k_ny_hm | .ah, .ny => k_ah_ny | .ah, .ah => k_ah_ah | .ah, .rd => k_ah_rd | .ah, .hm => k_ah_hm | .rd, .ny => k_rd_ny | .rd, .ah => k_rd_ah | .rd, .rd => k_rd_rd | .rd, .hm => k_rd_hm | .hm, .ny => k_hm_ny | .hm, .ah => k_hm_ah | .hm, .rd => k_hm_rd | .hm, .hm => k_hm_hm,
      kitS := fun a => match a with | .ny => kS_ny | .ah => kS_ah | .rd => kS_rd | .hm => kS_hm,
      exK := exK,
      exB := exB,
      exN := exN,
      exM := exM,
      exR := exR,
      exV := exV,
      exO := exO } hmg

