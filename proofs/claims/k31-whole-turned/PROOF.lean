import PyProof.Rows.All
import Wide.All
import OpenK.AllK
import Wide.FinOn
import KE.KStateDown
import KE.SortData
import HandS.ForMost
import HandS.IsInst
import HandS.Style
import HandS.Wide
import HandS.Conv
import HandS.DictTup
import HandS.DictComp
import HandS.Defaults
import PySem.Challenge.RW_drawnbywheels_k31_whole_turned_and_mirro
import HandS.Walk
import KE.KDictWalk
import HandS.Strs
import HandS.SetFor
import PyProof.Rows.SortStr
import HandS.TupSets
import HandS.Ends
import HandS.More
import HandS.Words
import HandS.WordsExc
import HandS.Head0
import HandS.Head1
import HandS.Head2
import HandS.HeadEnd
import HandS.HeadHook1
import HandS.HeadHook2
import HandS.HeadHook3
import HandS.HeadHook4
set_option Elab.async false
set_option linter.all false
set_option maxRecDepth 100000
set_option maxHeartbeats 4000000
namespace K31
open PySem PySem.Spec PyProof.Rows L2
/-! ### the text by places -/
def top (i : Nat) : Stmt := PySem.Challenge.pw_drawnbywheels_k31_whole_turned_and_mirro.main.body.getD i (.Pass ⟨0, 0, 0, 0⟩)
abbrev s_common_divisor : Stmt := top 5
abbrev s_common_multiple : Stmt := top 6
abbrev s_multiple_of_all : Stmt := top 7
abbrev s_fraction_of : Stmt := top 8
abbrev s_fraction_sum : Stmt := top 9
abbrev s_fraction_difference : Stmt := top 10
abbrev s_turn_left : Stmt := top 11
abbrev s_turn_sum : Stmt := top 12
abbrev s_turn_difference : Stmt := top 13
abbrev s_is_less : Stmt := top 14
abbrev s_in_order : Stmt := top 15
abbrev s_at_bottom : Stmt := top 16
abbrev s_is_integer : Stmt := top 20
abbrev s_is_from : Stmt := top 21
abbrev s_is_ascending : Stmt := top 22
abbrev s_is_name : Stmt := top 23
abbrev s_is_fraction : Stmt := top 24
abbrev s_is_turn : Stmt := top 25
abbrev s_are_turns_in_order : Stmt := top 26
abbrev s_is_place_row : Stmt := top 27
abbrev s_is_place_form : Stmt := top 28
abbrev s_check_turn : Stmt := top 29
abbrev s_check_place : Stmt := top 30
abbrev s_part_in : Stmt := top 34
abbrev s_turn_in : Stmt := top 35
abbrev s_integers_by_turn : Stmt := top 36
abbrev s_rows_by_class : Stmt := top 37
abbrev s_kept_row : Stmt := top 38
abbrev s_form_in : Stmt := top 39
abbrev s_written_in : Stmt := top 40
abbrev s_turned_in : Stmt := top 41
abbrev s_mirrored_in : Stmt := top 42
abbrev s_written : Stmt := top 43
abbrev s_same : Stmt := top 44
abbrev s_turned : Stmt := top 45
abbrev s_mirrored : Stmt := top 46
abbrev s__law_urn : Stmt := top 48
abbrev s__law_pick : Stmt := top 49
abbrev s__law_shuffled : Stmt := top 50
abbrev s__law_common : Stmt := top 51
abbrev s__law_fraction : Stmt := top 52
abbrev s__law_left : Stmt := top 53
abbrev s__law_sum : Stmt := top 54
abbrev s__law_sorted : Stmt := top 55
abbrev s__law_drawn_turn : Stmt := top 56
abbrev s__law_key : Stmt := top 57
abbrev s__law_says : Stmt := top 58
abbrev s__law_spread : Stmt := top 59
abbrev s__law_place : Stmt := top 60
abbrev s__law_dot : Stmt := top 61
abbrev s__law_same_rows : Stmt := top 62
abbrev s__law_minus : Stmt := top 63
abbrev s__law_each : Stmt := top 64
abbrev s__law_group_right : Stmt := top 65
abbrev s__law_dots_right : Stmt := top 66
abbrev s__law_stand_alone : Stmt := top 67
abbrev s__law_right : Stmt := top 68
abbrev s_law : Stmt := top 69
theorem sc_common_divisor : FnScope ["one", "other"] ["one", "other"] (defScope s_common_divisor) := ⟨rfl, rfl, rfl, by decide +kernel, rfl, by decide +kernel, by decide +kernel⟩
theorem sc_common_multiple : FnScope ["one", "other"] ["one", "other"] (defScope s_common_multiple) := ⟨rfl, rfl, rfl, by decide +kernel, rfl, by decide +kernel, by decide +kernel⟩
theorem sc_multiple_of_all : FnScope ["numbers", "found", "number"] ["numbers"] (defScope s_multiple_of_all) := ⟨rfl, rfl, rfl, by decide +kernel, rfl, by decide +kernel, by decide +kernel⟩
theorem sc_fraction_of : FnScope ["top", "bottom", "divisor"] ["top", "bottom"] (defScope s_fraction_of) := ⟨rfl, rfl, rfl, by decide +kernel, rfl, by decide +kernel, by decide +kernel⟩
theorem sc_fraction_sum : FnScope ["one", "other"] ["one", "other"] (defScope s_fraction_sum) := ⟨rfl, rfl, rfl, by decide +kernel, rfl, by decide +kernel, by decide +kernel⟩
theorem sc_fraction_difference : FnScope ["one", "other"] ["one", "other"] (defScope s_fraction_difference) := ⟨rfl, rfl, rfl, by decide +kernel, rfl, by decide +kernel, by decide +kernel⟩
theorem sc_turn_left : FnScope ["one"] ["one"] (defScope s_turn_left) := ⟨rfl, rfl, rfl, by decide +kernel, rfl, by decide +kernel, by decide +kernel⟩
theorem sc_turn_sum : FnScope ["one", "other"] ["one", "other"] (defScope s_turn_sum) := ⟨rfl, rfl, rfl, by decide +kernel, rfl, by decide +kernel, by decide +kernel⟩
theorem sc_turn_difference : FnScope ["one", "other"] ["one", "other"] (defScope s_turn_difference) := ⟨rfl, rfl, rfl, by decide +kernel, rfl, by decide +kernel, by decide +kernel⟩
theorem sc_is_less : FnScope ["one", "other"] ["one", "other"] (defScope s_is_less) := ⟨rfl, rfl, rfl, by decide +kernel, rfl, by decide +kernel, by decide +kernel⟩
theorem sc_in_order : FnScope ["turns", "bottom", "one", "top"] ["turns"] (defScope s_in_order) := ⟨rfl, rfl, rfl, by decide +kernel, rfl, by decide +kernel, by decide +kernel⟩
theorem sc_at_bottom : FnScope ["one", "bottom"] ["one", "bottom"] (defScope s_at_bottom) := ⟨rfl, rfl, rfl, by decide +kernel, rfl, by decide +kernel, by decide +kernel⟩
theorem sc_is_integer : FnScope ["thing"] ["thing"] (defScope s_is_integer) := ⟨rfl, rfl, rfl, by decide +kernel, rfl, by decide +kernel, by decide +kernel⟩
theorem sc_is_from : FnScope ["low", "thing"] ["low", "thing"] (defScope s_is_from) := ⟨rfl, rfl, rfl, by decide +kernel, rfl, by decide +kernel, by decide +kernel⟩
theorem sc_is_ascending : FnScope ["things", "part", "later"] ["things"] (defScope s_is_ascending) := ⟨rfl, rfl, rfl, by decide +kernel, rfl, by decide +kernel, by decide +kernel⟩
theorem sc_is_name : FnScope ["thing"] ["thing"] (defScope s_is_name) := ⟨rfl, rfl, rfl, by decide +kernel, rfl, by decide +kernel, by decide +kernel⟩
theorem sc_is_fraction : FnScope ["thing"] ["thing"] (defScope s_is_fraction) := ⟨rfl, rfl, rfl, by decide +kernel, rfl, by decide +kernel, by decide +kernel⟩
theorem sc_is_turn : FnScope ["thing"] ["thing"] (defScope s_is_turn) := ⟨rfl, rfl, rfl, by decide +kernel, rfl, by decide +kernel, by decide +kernel⟩
theorem sc_are_turns_in_order : FnScope ["thing", "one", "later"] ["thing"] (defScope s_are_turns_in_order) := ⟨rfl, rfl, rfl, by decide +kernel, rfl, by decide +kernel, by decide +kernel⟩
theorem sc_is_place_row : FnScope ["thing"] ["thing"] (defScope s_is_place_row) := ⟨rfl, rfl, rfl, by decide +kernel, rfl, by decide +kernel, by decide +kernel⟩
theorem sc_is_place_form : FnScope ["thing", "row"] ["thing"] (defScope s_is_place_form) := ⟨rfl, rfl, rfl, by decide +kernel, rfl, by decide +kernel, by decide +kernel⟩
theorem sc_check_turn : FnScope ["thing"] ["thing"] (defScope s_check_turn) := ⟨rfl, rfl, rfl, by decide +kernel, rfl, by decide +kernel, by decide +kernel⟩
theorem sc_check_place : FnScope ["thing"] ["thing"] (defScope s_check_place) := ⟨rfl, rfl, rfl, by decide +kernel, rfl, by decide +kernel, by decide +kernel⟩
theorem sc_part_in : FnScope ["turn", "part"] ["turn"] (defScope s_part_in) := ⟨rfl, rfl, rfl, by decide +kernel, rfl, by decide +kernel, by decide +kernel⟩
theorem sc_turn_in : FnScope ["part", "turn_class"] ["part", "turn_class"] (defScope s_turn_in) := ⟨rfl, rfl, rfl, by decide +kernel, rfl, by decide +kernel, by decide +kernel⟩
theorem sc_integers_by_turn : FnScope ["roots", "other_roots", "found", "turn", "number"] ["roots", "other_roots"] (defScope s_integers_by_turn) := ⟨rfl, rfl, rfl, by decide +kernel, rfl, by decide +kernel, by decide +kernel⟩
theorem sc_rows_by_class : FnScope ["integers", "found", "turn", "number", "part", "turn_class"] ["integers"] (defScope s_rows_by_class) := ⟨rfl, rfl, rfl, by decide +kernel, rfl, by decide +kernel, by decide +kernel⟩
theorem sc_kept_row : FnScope ["row", "kept", "taken_off", "prime", "part", "number", "place"] ["row"] (defScope s_kept_row) := ⟨rfl, rfl, rfl, by decide +kernel, rfl, by decide +kernel, by decide +kernel⟩
theorem sc_form_in : FnScope ["roots", "other_roots", "rows", "found", "classes", "part", "turn_class", "row"] ["roots", "other_roots"] (defScope s_form_in) := ⟨rfl, rfl, rfl, by decide +kernel, rfl, by decide +kernel, by decide +kernel⟩
theorem sc_written_in : FnScope ["place", "found", "name", "turns", "told", "turn"] ["place"] (defScope s_written_in) := ⟨rfl, rfl, rfl, by decide +kernel, rfl, by decide +kernel, by decide +kernel⟩
theorem sc_turned_in : FnScope ["place", "turn", "name", "turns", "one"] ["place", "turn"] (defScope s_turned_in) := ⟨rfl, rfl, rfl, by decide +kernel, rfl, by decide +kernel, by decide +kernel⟩
theorem sc_mirrored_in : FnScope ["place", "turn", "name", "turns", "one"] ["place", "turn"] (defScope s_mirrored_in) := ⟨rfl, rfl, rfl, by decide +kernel, rfl, by decide +kernel, by decide +kernel⟩
theorem sc_written : FnScope ["place"] ["place"] (defScope s_written) := ⟨rfl, rfl, rfl, by decide +kernel, rfl, by decide +kernel, by decide +kernel⟩
theorem sc_same : FnScope ["place", "other_place"] ["place", "other_place"] (defScope s_same) := ⟨rfl, rfl, rfl, by decide +kernel, rfl, by decide +kernel, by decide +kernel⟩
theorem sc_turned : FnScope ["place", "turn"] ["place", "turn"] (defScope s_turned) := ⟨rfl, rfl, rfl, by decide +kernel, rfl, by decide +kernel, by decide +kernel⟩
theorem sc_mirrored : FnScope ["place", "turn"] ["place", "turn"] (defScope s_mirrored) := ⟨rfl, rfl, rfl, by decide +kernel, rfl, by decide +kernel, by decide +kernel⟩
theorem sc__law_urn : FnScope ["_law_script", "_law_k", "_law_cell"] ["_law_script", "_law_k"] (defScope s__law_urn) := ⟨rfl, rfl, rfl, by decide +kernel, rfl, by decide +kernel, by decide +kernel⟩
theorem sc__law_pick : FnScope ["_law_urn_here", "_law_many", "_law_found", "_law_mixed"] ["_law_urn_here", "_law_many"] (defScope s__law_pick) := ⟨rfl, rfl, rfl, by decide +kernel, rfl, by decide +kernel, by decide +kernel⟩
theorem sc__law_shuffled : FnScope ["_law_urn_here", "_law_things", "_law_left_here", "_law_found", "_law_k"] ["_law_urn_here", "_law_things"] (defScope s__law_shuffled) := ⟨rfl, rfl, rfl, by decide +kernel, rfl, by decide +kernel, by decide +kernel⟩
theorem sc__law_common : FnScope ["_law_one", "_law_other", "_law_go", "_law_rest"] ["_law_one", "_law_other"] (defScope s__law_common) := ⟨rfl, rfl, rfl, by decide +kernel, rfl, by decide +kernel, by decide +kernel⟩
theorem sc__law_fraction : FnScope ["_law_top", "_law_bottom", "_law_divisor"] ["_law_top", "_law_bottom"] (defScope s__law_fraction) := ⟨rfl, rfl, rfl, by decide +kernel, rfl, by decide +kernel, by decide +kernel⟩
theorem sc__law_left : FnScope ["_law_top", "_law_bottom"] ["_law_top", "_law_bottom"] (defScope s__law_left) := ⟨rfl, rfl, rfl, by decide +kernel, rfl, by decide +kernel, by decide +kernel⟩
theorem sc__law_sum : FnScope ["_law_one", "_law_other"] ["_law_one", "_law_other"] (defScope s__law_sum) := ⟨rfl, rfl, rfl, by decide +kernel, rfl, by decide +kernel, by decide +kernel⟩
theorem sc__law_sorted : FnScope ["_law_turns_here", "_law_bottom", "_law_one", "_law_top"] ["_law_turns_here"] (defScope s__law_sorted) := ⟨rfl, rfl, rfl, by decide +kernel, rfl, by decide +kernel, by decide +kernel⟩
theorem sc__law_drawn_turn : FnScope ["_law_urn_here", "_law_bottom"] ["_law_urn_here"] (defScope s__law_drawn_turn) := ⟨rfl, rfl, rfl, by decide +kernel, rfl, by decide +kernel, by decide +kernel⟩
theorem sc__law_key : FnScope ["_law_rows", "_law_n", "_law_found", "_law_j", "_law_number", "_law_p", "_law_step"] ["_law_rows", "_law_n"] (defScope s__law_key) := ⟨rfl, rfl, rfl, by decide +kernel, rfl, by decide +kernel, by decide +kernel⟩
theorem sc__law_says : FnScope ["_law_thing", "_law_due"] ["_law_thing", "_law_due"] (defScope s__law_says) := ⟨rfl, rfl, rfl, by decide +kernel, rfl, by decide +kernel, by decide +kernel⟩
theorem sc__law_spread : FnScope ["_law_urn_here", "_law_n", "_law_found", "_law_names", "_law_few", "_law_k", "_law_name", "_law_j", "_law_row"] ["_law_urn_here", "_law_n"] (defScope s__law_spread) := ⟨rfl, rfl, rfl, by decide +kernel, rfl, by decide +kernel, by decide +kernel⟩
theorem sc__law_place : FnScope ["_law_rows", "_law_n", "_law_more", "_law_found", "_law_name", "_law_turns_here", "_law_row", "_law_label", "_law_j"] ["_law_rows", "_law_n", "_law_more"] (defScope s__law_place) := ⟨rfl, rfl, rfl, by decide +kernel, rfl, by decide +kernel, by decide +kernel⟩
theorem sc__law_dot : FnScope ["_law_rows", "_law_n", "_law_found", "_law_name", "_law_those", "_law_label", "_law_j"] ["_law_rows", "_law_n"] (defScope s__law_dot) := ⟨rfl, rfl, rfl, by decide +kernel, rfl, by decide +kernel, by decide +kernel⟩
theorem sc__law_same_rows : FnScope ["_law_urn_here", "_law_rows", "_law_n", "_law_found", "_law_names", "_law_way", "_law_name", "_law_j", "_law_those", "_law_row", "_law_k"] ["_law_urn_here", "_law_rows", "_law_n"] (defScope s__law_same_rows) := ⟨rfl, rfl, rfl, by decide +kernel, rfl, by decide +kernel, by decide +kernel⟩
theorem sc__law_minus : FnScope ["_law_turn_here"] ["_law_turn_here"] (defScope s__law_minus) := ⟨rfl, rfl, rfl, by decide +kernel, rfl, by decide +kernel, by decide +kernel⟩
theorem sc__law_each : FnScope ["_law_where", "_law_way", "_law_more", "_law_found", "_law_name", "_law_turns_here", "_law_some", "_law_one"] ["_law_where", "_law_way", "_law_more"] (defScope s__law_each) := ⟨rfl, rfl, rfl, by decide +kernel, rfl, by decide +kernel, by decide +kernel⟩
theorem sc__law_group_right : FnScope ["_law_where", "_law_one", "_law_two", "_law_total", "_law_less"] ["_law_where", "_law_one", "_law_two"] (defScope s__law_group_right) := ⟨rfl, rfl, rfl, by decide +kernel, rfl, by decide +kernel, by decide +kernel⟩
theorem sc__law_dots_right : FnScope ["_law_where", "_law_other", "_law_alike", "_law_one", "_law_is_zero"] ["_law_where", "_law_other", "_law_alike", "_law_one", "_law_is_zero"] (defScope s__law_dots_right) := ⟨rfl, rfl, rfl, by decide +kernel, rfl, by decide +kernel, by decide +kernel⟩
theorem sc__law_stand_alone : FnScope ["_law_found", "_law_due", "_law_k", "_law_name", "_law_turns_here"] ["_law_found", "_law_due"] (defScope s__law_stand_alone) := ⟨rfl, rfl, rfl, by decide +kernel, rfl, by decide +kernel, by decide +kernel⟩
theorem sc__law_right : FnScope ["_law_urn_here", "_law_n", "_law_rows", "_law_more", "_law_others", "_law_where", "_law_other", "_law_one", "_law_two", "_law_shot", "_law_told", "_law_glass", "_law_under", "_law_far", "_law_alike"] ["_law_urn_here"] (defScope s__law_right) := ⟨rfl, rfl, rfl, by decide +kernel, rfl, by decide +kernel, by decide +kernel⟩
theorem sc_law : FnScope ["_law_script", "_law_k"] ["_law_script"] (defScope s_law) := ⟨rfl, rfl, rfl, by decide +kernel, rfl, by decide +kernel, by decide +kernel⟩
/-! ### a def of the text as it stands behind the top -/
structure At (K : PySem.W.Frag) (mg : Str → Option Value) (x : Str) (st : Stmt) : Prop where
  ex : ∃ f fd, mg x = some (.ref f) ∧ FunD K x x (defArgs st) (defBody st) (defScope st) [] [] f fd
/-- a def keeps a promise, by name -/
def Df (P : Program) (w : World) (K : PySem.W.Frag) (mg : Str → Option Value) (base : Heap) (j : Nat) (x : Str) (ps : List Str) (sp : Sp) : Prop :=
  ∃ f fd, mg x = some (.ref f) ∧ PySem.W.keepIn K (.ref f) = true ∧ Binds K fd ps [] ∧ FnOk P w K mg base CX0 j f fd ps sp
section
variable {P : Program} {w : World} {K : PySem.W.Frag} {mg : Str → Option Value} {base : Heap}
theorem Df.mk {x : Str} {st : Stmt} {N ps : List Str} {k : Nat} {sp : Sp} (A : At K mg x st) (S : FnScope N ps (defScope st))
    (hb : ∀ (kV doc pm : Value) (an : Option Addr) (cdv ct : Value) (us : List Value), us.length = ps.length → bindArgs (PySem.W.fnOf x x (defArgs st) (defBody st) (defScope st) .none kV doc pm an cdv ct) ⟨us, []⟩ = pure (ps.zip us))
    (len : ∀ vs H Q E, sp vs H Q E → vs.length = ps.length)
    (body : ∀ (f : Addr) (cdv : Value) (A : Around) (outer : List Env) (s : Shared) (H : Hp) (vs : List V) (Q : VK) (E : XK), Room k (A.deeper (envOfC x (defScope st) s.heap.objs.size f cdv)) → sp vs H Q E →
      ∃ t, PSs (cxOf CX0 P w K mg base N x (defScope st) f cdv A outer s H E).nox (defBody st) t ∧ t { nx := fun _ H' => Q .non H', rt := Q } (start N vs) H) : Df P w K mg base (k + 1) x ps sp := by
  obtain ⟨f, fd, g, F⟩ := A.ex
  refine ⟨f, fd, g, F.kp, F.bindsN hb, F.ok S len fun cdv A outer s H vs Q E hr h => ?_⟩
  obtain ⟨t, h1, h2⟩ := body f cdv A outer s H vs Q E hr h
  exact ⟨t, h1.nox, h2⟩
end
theorem pe_df {X : Cx} {j k : Nat} {x : Str} {ps : List Str} {sp : Sp} {e : Expr} {es : List Expr} {t : TA} {p pos : Pos} (D : Df X.prog X.w X.K X.mg X.base j x ps sp) (hr : Room k X.A) (hj : j ≤ k) (hg : Gl X x) (ha : PA X (e :: es) t)
    (hdb : (x == ("__debug__" : Str)) = false := by decide) (hst : starEach (e :: es) X.env = (false, eval e X.env) :: starEach es X.env := by rfl)
    (hpl : ((backTo pos (starEach es X.env)).any fun z => z.1) = false := by rfl) :
    PE X (.Call (.Name x p) (e :: es) [] pos) (tCall sp [] E0 t) := by
  obtain ⟨f, fd, g, kp, b, F⟩ := D
  exact pe_call F (hr.mono hj) hg g kp b .nil pass0 ha hdb hst hpl
/-! ### what the top has written -/
structure Txt (K : PySem.W.Frag) (mg : Str → Option Value) : Prop where
  a_common_divisor : At K mg "common_divisor" s_common_divisor
  a_common_multiple : At K mg "common_multiple" s_common_multiple
  a_multiple_of_all : At K mg "multiple_of_all" s_multiple_of_all
  a_fraction_of : At K mg "fraction_of" s_fraction_of
  a_fraction_sum : At K mg "fraction_sum" s_fraction_sum
  a_fraction_difference : At K mg "fraction_difference" s_fraction_difference
  a_turn_left : At K mg "turn_left" s_turn_left
  a_turn_sum : At K mg "turn_sum" s_turn_sum
  a_turn_difference : At K mg "turn_difference" s_turn_difference
  a_is_less : At K mg "is_less" s_is_less
  a_in_order : At K mg "in_order" s_in_order
  a_at_bottom : At K mg "at_bottom" s_at_bottom
  a_is_integer : At K mg "is_integer" s_is_integer
  a_is_from : At K mg "is_from" s_is_from
  a_is_ascending : At K mg "is_ascending" s_is_ascending
  a_is_name : At K mg "is_name" s_is_name
  a_is_fraction : At K mg "is_fraction" s_is_fraction
  a_is_turn : At K mg "is_turn" s_is_turn
  a_are_turns_in_order : At K mg "are_turns_in_order" s_are_turns_in_order
  a_is_place_row : At K mg "is_place_row" s_is_place_row
  a_is_place_form : At K mg "is_place_form" s_is_place_form
  a_check_turn : At K mg "check_turn" s_check_turn
  a_check_place : At K mg "check_place" s_check_place
  a_part_in : At K mg "part_in" s_part_in
  a_turn_in : At K mg "turn_in" s_turn_in
  a_integers_by_turn : At K mg "integers_by_turn" s_integers_by_turn
  a_rows_by_class : At K mg "rows_by_class" s_rows_by_class
  a_kept_row : At K mg "kept_row" s_kept_row
  a_form_in : At K mg "form_in" s_form_in
  a_written_in : At K mg "written_in" s_written_in
  a_turned_in : At K mg "turned_in" s_turned_in
  a_mirrored_in : At K mg "mirrored_in" s_mirrored_in
  a_written : At K mg "written" s_written
  a_same : At K mg "same" s_same
  a_turned : At K mg "turned" s_turned
  a_mirrored : At K mg "mirrored" s_mirrored
  a__law_urn : At K mg "_law_urn" s__law_urn
  a__law_pick : At K mg "_law_pick" s__law_pick
  a__law_shuffled : At K mg "_law_shuffled" s__law_shuffled
  a__law_common : At K mg "_law_common" s__law_common
  a__law_fraction : At K mg "_law_fraction" s__law_fraction
  a__law_left : At K mg "_law_left" s__law_left
  a__law_sum : At K mg "_law_sum" s__law_sum
  a__law_sorted : At K mg "_law_sorted" s__law_sorted
  a__law_drawn_turn : At K mg "_law_drawn_turn" s__law_drawn_turn
  a__law_key : At K mg "_law_key" s__law_key
  a__law_says : At K mg "_law_says" s__law_says
  a__law_spread : At K mg "_law_spread" s__law_spread
  a__law_place : At K mg "_law_place" s__law_place
  a__law_dot : At K mg "_law_dot" s__law_dot
  a__law_same_rows : At K mg "_law_same_rows" s__law_same_rows
  a__law_minus : At K mg "_law_minus" s__law_minus
  a__law_each : At K mg "_law_each" s__law_each
  a__law_group_right : At K mg "_law_group_right" s__law_group_right
  a__law_dots_right : At K mg "_law_dots_right" s__law_dots_right
  a__law_stand_alone : At K mg "_law_stand_alone" s__law_stand_alone
  a__law_right : At K mg "_law_right" s__law_right
  a_law : At K mg "law" s_law
  z_abs : mg "abs" = none
  z_len : mg "len" = none
  z_isinstance : mg "isinstance" = none
  z_all : mg "all" = none
  z_any : mg "any" = none
  z_zip : mg "zip" = none
  z_sorted : mg "sorted" = none
  z_list : mg "list" = none
  z_tuple : mg "tuple" = none
  z_set : mg "set" = none
  z_int : mg "int" = none
  z_range : mg "range" = none
  z_max : mg "max" = none
  z_min : mg "min" = none
  z_bool : mg "bool" = none
  z_str : mg "str" = none
  mPARTS : ∃ t, mg "PARTS" = some (.int 30 t)
  mMOST : ∃ t, mg "MOST_OF_A_NAME" = some (.int 3 t)
  mNAMES : ∃ t, mg "NAMES" = some (.str "abcdefghijklmnopqrstuvwxyz" t)
  mPRIMES : ∃ a, mg "PRIMES" = some (.ref a) ∧ ∀ H, SqT K H a [.int 2, .int 3, .int 5]
theorem Txt.g_PARTS {X : Cx} {pos : Pos} (T : Txt X.K X.mg) (hg : Gl X "PARTS" := by rfl) : PE X (.Name "PARTS" pos) (tC (.int 30)) := by
  obtain ⟨t, e⟩ := T.mPARTS
  exact pe_glob hg e ⟨t, rfl⟩
theorem Txt.g_MOST_OF_A_NAME {X : Cx} {pos : Pos} (T : Txt X.K X.mg) (hg : Gl X "MOST_OF_A_NAME" := by rfl) : PE X (.Name "MOST_OF_A_NAME" pos) (tC (.int 3)) := by
  obtain ⟨t, e⟩ := T.mMOST
  exact pe_glob hg e ⟨t, rfl⟩
theorem Txt.g_NAMES {X : Cx} {pos : Pos} (T : Txt X.K X.mg) (hg : Gl X "NAMES" := by rfl) : PE X (.Name "NAMES" pos) (tC (.str "abcdefghijklmnopqrstuvwxyz")) := by
  obtain ⟨t, e⟩ := T.mNAMES
  exact pe_glob hg e ⟨t, rfl⟩
def tPRIMES (K : PySem.W.Frag) : TE := fun _ H Q => ∀ a, (∀ H, SqT K H a [.int 2, .int 3, .int 5]) → Q (.ref a) H
theorem Txt.g_PRIMES {X : Cx} {pos : Pos} (T : Txt X.K X.mg) (hg : Gl X "PRIMES" := by rfl) : PE X (.Name "PRIMES" pos) (tPRIMES X.K) := by
  obtain ⟨a, e, h⟩ := T.mPRIMES
  exact ⟨fun pins s σ H Q I q => (pe_glob (v := .ref a) hg e rfl).run pins s σ H Q I (q a h)⟩
theorem bt_abs : bootBuiltins "abs" = some (.builtin "abs") := by decide +kernel
theorem bt_len : bootBuiltins "len" = some (.builtin "len") := by decide +kernel
theorem bt_isinstance : bootBuiltins "isinstance" = some (.builtin "isinstance") := by decide +kernel
theorem bt_all : bootBuiltins "all" = some (.builtin "all") := by decide +kernel
theorem bt_any : bootBuiltins "any" = some (.builtin "any") := by decide +kernel
theorem bt_zip : bootBuiltins "zip" = some (.type "zip") := by decide +kernel
theorem bt_sorted : bootBuiltins "sorted" = some (.builtin "sorted") := by decide +kernel
theorem bt_list : bootBuiltins "list" = some (.type "list") := by decide +kernel
theorem bt_tuple : bootBuiltins "tuple" = some (.type "tuple") := by decide +kernel
theorem bt_set : bootBuiltins "set" = some (.type "set") := by decide +kernel
theorem bt_int : bootBuiltins "int" = some (.type "int") := by decide +kernel
theorem bt_range : bootBuiltins "range" = some (.type "range") := by decide +kernel
theorem bt_max : bootBuiltins "max" = some (.builtin "max") := by decide +kernel
theorem bt_min : bootBuiltins "min" = some (.builtin "min") := by decide +kernel
theorem bt_bool : bootBuiltins "bool" = some (.type "bool") := by decide +kernel
theorem bt_str : bootBuiltins "str" = some (.type "str") := by decide +kernel
end K31

set_option Elab.async false
set_option linter.all false
set_option maxRecDepth 100000
set_option maxHeartbeats 4000000
namespace K31
open PySem PySem.Spec PyProof.Rows L2
/-! ### rules with the written part named -/
theorem ix_tupK {X : Cx} {K : PySem.W.Frag} (e : X.K = K) : IxR X (rIxT K) := by
  subst e
  exact ix_tup
theorem ix_listK {X : Cx} {K : PySem.W.Frag} (e : X.K = K) : IxR X (rIxL K) := by
  subst e
  exact ix_list
theorem pi_listK {X : Cx} {K : PySem.W.Frag} {tg l : Expr} {tl : TE} (e : X.K = K) (hl : PE X l tl) : PI X tg l (iList K tl) := by
  subst e
  exact pi_list hl
/-! ### bounds -/
def Bd (k : Nat) (x : Int) : Prop := x.natAbs < 2 ^ k
theorem Bd.mono {a b : Nat} {x : Int} (h : Bd a x) (l : a ≤ b) : Bd b x := Nat.lt_of_lt_of_le h (Nat.pow_le_pow_right (by decide) l)
theorem Bd.mul {a b : Nat} {x y : Int} (h : Bd a x) (g : Bd b y) : Bd (a + b) (x * y) := wide_lt h g
theorem Bd.add {a : Nat} {x y : Int} (h : Bd a x) (g : Bd a y) : Bd (a + 1) (x + y) := by
  unfold Bd at *
  rw [Nat.pow_succ]
  omega
theorem Bd.sub {a : Nat} {x y : Int} (h : Bd a x) (g : Bd a y) : Bd (a + 1) (x - y) := by
  unfold Bd at *
  rw [Nat.pow_succ]
  omega
theorem Bd.neg {a : Nat} {x : Int} (h : Bd a x) : Bd a (-x) := by
  unfold Bd at *
  omega
theorem Bd.le {a : Nat} {x y : Int} (h : Bd a y) (h0 : 0 ≤ x) (l : x ≤ y) : Bd a x := by
  unfold Bd at *
  omega
theorem Bd.div {a : Nat} {x j : Int} (h : Bd a x) (hj : 0 < j) : Bd a (x / j) := by
  unfold Bd at *
  have h1 : (x / j).natAbs ≤ x.natAbs := by
    by_cases hx : 0 ≤ x
    · have h2 : x / j ≤ x := Int.ediv_le_self j hx
      have h3 : 0 ≤ x / j := Int.ediv_nonneg hx (by omega)
      omega
    · have h2 : x ≤ x / j := by
        have e := Int.mul_ediv_self_le (x := x) (k := j) (by omega)
        have e2 := Int.lt_mul_ediv_self_add (x := x) (k := j) hj
        by_cases h5 : x / j < x
        · have h6 : x / j + 1 ≤ x := by omega
          have h7 : j * (x / j + 1) ≤ j * x := Int.mul_le_mul_of_nonneg_left h6 (by omega)
          rw [Int.mul_add, Int.mul_one] at h7
          have h8 : j * x ≤ 1 * x := Int.mul_le_mul_of_nonpos_right (by omega) (by omega)
          omega
        · omega
      have h3 : x / j < 0 := Int.ediv_neg_of_neg_of_pos (by omega) hj
      omega
  omega
theorem Bd.mulOk {a b : Nat} {x y : Int} (h : Bd a x) (g : Bd b y) (h0 : 0 < a := by decide) (h1 : 0 < b := by decide) (l : a + b ≤ 1000000 := by decide) : CMulW x y := wide_mul h g h0 h1 l
theorem Bd.divOk {x j : Int} {b : Nat} (g : Bd b j) (hj : 0 < j) (h0 : 0 < b := by decide) (l : b ≤ 9000 := by decide) : CDivW x j := wide_div hj g h0 l
/-! ### turns as pairs -/
abbrev Turn := Int × Int
def TOk (k : Nat) (t : Turn) : Prop := 0 < t.2 ∧ Bd k t.1 ∧ Bd k t.2
theorem TOk.mono {a b : Nat} {t : Turn} (h : TOk a t) (l : a ≤ b) : TOk b t := ⟨h.1, h.2.1.mono l, h.2.2.mono l⟩
def fracOf (a b : Int) : Turn := (a / (Int.gcd a b : Int), b / (Int.gcd a b : Int))
def fracSum (x y : Turn) : Turn := fracOf (x.1 * y.2 + y.1 * x.2) (x.2 * y.2)
def fracDiff (x y : Turn) : Turn := fracOf (x.1 * y.2 - y.1 * x.2) (x.2 * y.2)
def turnLeft (x : Turn) : Turn := (x.1 % x.2, x.2)
def turnSum (x y : Turn) : Turn := turnLeft (fracSum x y)
def turnDiff (x y : Turn) : Turn := turnLeft (fracDiff x y)
def lawLeft (a b : Int) : Turn := fracOf (a % b) b
def lawSum (x y : Turn) : Turn := lawLeft (x.1 * y.2 + y.1 * x.2) (x.2 * y.2)
def lawMinus (x : Turn) : Turn := lawLeft (-x.1) x.2
theorem gcd_pos {a b : Int} (hb : 0 < b) : 0 < (Int.gcd a b : Int) := by
  have h : 0 < Int.gcd a b := Int.gcd_pos_of_ne_zero_right a (by omega)
  omega
theorem gcd_le {a b : Int} (hb : 0 < b) : (Int.gcd a b : Int) ≤ b := Int.le_of_dvd hb (Int.gcd_dvd_right a b)
theorem fracOf_ok {k : Nat} {a b : Int} (hb : 0 < b) (ha : Bd k a) (hB : Bd k b) : TOk k (fracOf a b) := by
  have hg := gcd_pos (a := a) hb
  refine ⟨?_, ha.div hg, hB.div hg⟩
  show 0 < b / (Int.gcd a b : Int)
  have d := Int.gcd_dvd_right a b
  have e := Int.ediv_mul_cancel d
  have h0 : 0 ≤ b / (Int.gcd a b : Int) := Int.ediv_nonneg (by omega) (by omega)
  by_cases z : b / (Int.gcd a b : Int) = 0
  · rw [z] at e
    omega
  · omega
theorem turnLeft_ok {k : Nat} {x : Turn} (h : TOk k x) : TOk k (turnLeft x) := by
  refine ⟨h.1, ?_, h.2.2⟩
  show Bd k (x.1 % x.2)
  have h1 := Int.emod_nonneg x.1 (show x.2 ≠ 0 from Int.ne_of_gt h.1)
  have h2 := Int.emod_lt_of_pos x.1 h.1
  exact h.2.2.le h1 (by omega)
theorem fracSum_ok {k : Nat} {x y : Turn} (h : TOk k x) (g : TOk k y) : TOk (k + k + 1) (fracSum x y) :=
  fracOf_ok (Int.mul_pos h.1 g.1) ((h.2.1.mul g.2.2).add (g.2.1.mul h.2.2)) ((h.2.2.mul g.2.2).mono (Nat.le_succ _))
theorem fracDiff_ok {k : Nat} {x y : Turn} (h : TOk k x) (g : TOk k y) : TOk (k + k + 1) (fracDiff x y) :=
  fracOf_ok (Int.mul_pos h.1 g.1) ((h.2.1.mul g.2.2).sub (g.2.1.mul h.2.2)) ((h.2.2.mul g.2.2).mono (Nat.le_succ _))
theorem turnSum_ok {k : Nat} {x y : Turn} (h : TOk k x) (g : TOk k y) : TOk (k + k + 1) (turnSum x y) := turnLeft_ok (fracSum_ok h g)
theorem turnDiff_ok {k : Nat} {x y : Turn} (h : TOk k x) (g : TOk k y) : TOk (k + k + 1) (turnDiff x y) := turnLeft_ok (fracDiff_ok h g)
/-! ### what stands in the heap -/
abbrev Rp (α : Type) := Hp → V → α → Prop
def rTurn : Rp Turn := fun H v t => ∃ p, v = .ref p ∧ H p = some (.tup [.int t.1, .int t.2])
def rPair {α β : Type} (R : Rp α) (S : Rp β) : Rp (α × β) := fun H v t => ∃ p x y, v = .ref p ∧ H p = some (.tup [x, y]) ∧ R H x t.1 ∧ S H y t.2
def rInt : Rp Int := fun _ v i => v = .int i
def rStr : Rp Str := fun _ v i => v = .str i
def rList {α : Type} (R : Rp α) : Rp (List α) := fun H v l => ∃ p xs, v = .ref p ∧ H p = some (.lst xs) ∧ Paired (R H) xs l
def rTupL {α : Type} (R : Rp α) : Rp (List α) := fun H v l => ∃ p xs, v = .ref p ∧ H p = some (.tup xs) ∧ Paired (R H) xs l
/-- what is told of tracked objects stays while they do -/
structure Mono {α : Type} (R : Rp α) : Prop where
  go : ∀ {H H' : Hp} {v : V} {x : α}, Same H H' → R H v x → R H' v x
theorem rTurn_mono : Mono rTurn := ⟨fun s ⟨p, e, h⟩ => ⟨p, e, s _ _ h⟩⟩
theorem rInt_mono : Mono rInt := ⟨fun _ h => h⟩
theorem rStr_mono : Mono rStr := ⟨fun _ h => h⟩
theorem rPair_mono {α β : Type} {R : Rp α} {S : Rp β} (mR : Mono R) (mS : Mono S) : Mono (rPair R S) := ⟨fun s ⟨p, x, y, e, h, a, b⟩ => ⟨p, x, y, e, s _ _ h, mR.go s a, mS.go s b⟩⟩
theorem rList_mono {α : Type} {R : Rp α} (mR : Mono R) : Mono (rList R) := ⟨fun s ⟨p, xs, e, h, a⟩ => ⟨p, xs, e, s _ _ h, L2.Paired.mapP a fun _ _ z => mR.go s z⟩⟩
theorem rTupL_mono {α : Type} {R : Rp α} (mR : Mono R) : Mono (rTupL R) := ⟨fun s ⟨p, xs, e, h, a⟩ => ⟨p, xs, e, s _ _ h, L2.Paired.mapP a fun _ _ z => mR.go s z⟩⟩
theorem same_upd {H : Hp} {p : Addr} {o : HO} (h : H p = none) : Same H (upd H p o) := fun b x e => by
  rw [upd_ne (ne_of_none e h)]
  exact e
/-- as data -/
theorem SqL_of {K : PySem.W.Frag} {H : Hp} {p : Addr} {xs : List V} (h : H p = some (.lst xs)) : SqL K H p xs := .inl (.inl h)
theorem SqT_of {K : PySem.W.Frag} {H : Hp} {p : Addr} {xs : List V} (h : H p = some (.tup xs)) : SqT K H p xs := .inl (.inl h)
def dT (t : Turn) : PyData := .tuple [.int t.1, .int t.2]
theorem dp_turn {K : PySem.W.Frag} {H : Hp} {v : V} {t : Turn} (h : rTurn H v t) : Dp K H v (dT t) := by
  obtain ⟨p, rfl, e⟩ := h
  exact .tup (SqT_of e) (.cons (.int _) (.cons (.int _) .nil))
theorem dp_int {K : PySem.W.Frag} {H : Hp} {v : V} {t : Int} (h : rInt H v t) : Dp K H v (.int t) := by
  obtain rfl := h
  exact .int _
theorem dp_str {K : PySem.W.Frag} {H : Hp} {v : V} {t : Str} (h : rStr H v t) : Dp K H v (.str t) := by
  obtain rfl := h
  exact .str _
theorem dp_all {α : Type} {R : Rp α} {K : PySem.W.Frag} {H : Hp} {f : α → PyData} (hR : ∀ {v : V} {x : α}, R H v x → Dp K H v (f x)) : ∀ {xs : List V} {l : List α}, Paired (R H) xs l → DpAll K H xs (l.map f)
  | _, _, .nil => .nil
  | _, _, .cons r t => .cons (hR r) (dp_all hR t)
theorem dp_list {α : Type} {R : Rp α} {K : PySem.W.Frag} {H : Hp} {f : α → PyData} (hR : ∀ {v : V} {x : α}, R H v x → Dp K H v (f x)) {v : V} {l : List α} (h : rList R H v l) : Dp K H v (.list (l.map f)) := by
  obtain ⟨p, xs, rfl, e, q⟩ := h
  exact .lst (SqL_of e) (dp_all hR q)
theorem dp_tupl {α : Type} {R : Rp α} {K : PySem.W.Frag} {H : Hp} {f : α → PyData} (hR : ∀ {v : V} {x : α}, R H v x → Dp K H v (f x)) {v : V} {l : List α} (h : rTupL R H v l) : Dp K H v (.tuple (l.map f)) := by
  obtain ⟨p, xs, rfl, e, q⟩ := h
  exact .tup (SqT_of e) (dp_all hR q)
theorem dp_pair {α β : Type} {R : Rp α} {S : Rp β} {K : PySem.W.Frag} {H : Hp} {f : α → PyData} {g : β → PyData} (hR : ∀ {v : V} {x : α}, R H v x → Dp K H v (f x)) (hS : ∀ {v : V} {x : β}, S H v x → Dp K H v (g x)) {v : V} {t : α × β} (h : rPair R S H v t) : Dp K H v (.tuple [f t.1, g t.2]) := by
  obtain ⟨p, x, y, rfl, e, q1, q2⟩ := h
  exact .tup (SqT_of e) (.cons (hR q1) (.cons (hS q2) .nil))
theorem Paired.get {α β : Type} {F : α → β → Prop} : ∀ {l : List α} {m : List β} {i : Nat} {x : α}, Paired F l m → l[i]? = some x → ∃ y, m[i]? = some y ∧ F x y
  | _, _, _, _, .nil, e => by simp at e
  | _, _, 0, _, .cons r _, e => by simp at e; subst e; exact ⟨_, rfl, r⟩
  | _, _, i + 1, x, .cons _ t, e => by
    obtain ⟨y, h1, h2⟩ := Paired.get (i := i) (x := x) t (by simpa using e)
    exact ⟨y, by simpa using h1, h2⟩
theorem Paired.getR {α β : Type} {F : α → β → Prop} : ∀ {l : List α} {m : List β} {i : Nat} {y : β}, Paired F l m → m[i]? = some y → ∃ x, l[i]? = some x ∧ F x y
  | _, _, _, _, .nil, e => by simp at e
  | _, _, 0, _, .cons r _, e => by simp at e; subst e; exact ⟨_, rfl, r⟩
  | _, _, i + 1, x, .cons _ t, e => by
    obtain ⟨y, h1, h2⟩ := Paired.getR (i := i) t (by simpa using e)
    exact ⟨y, by simpa using h1, h2⟩
theorem Paired.app {α β : Type} {F : α → β → Prop} : ∀ {l : List α} {m : List β} {l' : List α} {m' : List β}, Paired F l m → Paired F l' m' → Paired F (l ++ l') (m ++ m')
  | _, _, _, _, .nil, s => s
  | _, _, _, _, .cons r t, s => .cons r (Paired.app t s)
end K31

set_option Elab.async false
set_option linter.all false
set_option maxRecDepth 100000
set_option maxHeartbeats 4000000
namespace K31
open PySem PySem.Spec PyProof.Rows L2
section
variable {P : Program} {w : World} {K : PySem.W.Frag} {mg : Str → Option Value} {base : Heap}
def sp_common_divisor : Sp := fun vs H Q _ => ∃ a b : Int, vs = [.int a, .int b] ∧ Q (.int (Int.gcd a b : Int)) H
theorem gcd_step (a b : Int) (hb : b ≠ 0) : Int.gcd b (a % b) = Int.gcd a b := by
  rw [Int.gcd_comm b]
  have e : a % b = a - (a / b) * b := by
    have := Int.emod_add_mul_ediv a b
    rw [Int.mul_comm] at this
    omega
  rw [e, Int.gcd_sub_mul_right_left]
theorem df_common_divisor (T : Txt K mg) : Df P w K mg base 1 "common_divisor" ["one", "other"] sp_common_divisor := by
  refine Df.mk T.a_common_divisor sc_common_divisor (fun _ _ _ _ _ _ us hl => match us, hl with | [_, _], _ => rfl) (fun vs H Q E h => ?_) (fun f cdv A outer s H vs Q E hr h => ?_)
  · obtain ⟨a, b, rfl, _⟩ := h
    rfl
  · obtain ⟨a, b, rfl, q⟩ := h
    refine ⟨_, (pss_cons (ps_par (i := 0) (j := 1) (by rfl) sc_common_divisor.nd rfl rfl (by decide) rfl rfl (pa_cons (pe_callB call_abs (by rfl) T.z_abs bt_abs (pa_cons (pv 0) pa_nil)) (pa_cons (pe_callB call_abs (by rfl) T.z_abs bt_abs (pa_cons (pv 1) pa_nil)) pa_nil)) (by rfl))
  (pss_cons (ps_while PassesOwn.never (pt_cmpR op_ne (pv 1) pe_int (nomark _)) (pss_one (ps_par (i := 0) (j := 1) (by rfl) sc_common_divisor.nd rfl rfl (by decide) rfl rfl (pa_cons (pv 1) (pa_cons (pe_op op_mod (pv 0) (pv 1)) pa_nil)) (by rfl))))
  (pss_one (ps_ret (pv 0))))), ?_⟩
    refine ⟨_, rfl, _, rfl, _, rfl, _, rfl, _, _, rfl, ?_⟩
    refine while_by (fun σ H' => ∃ x y : Int, σ = [some (.int x), some (.int y)] ∧ H' = H ∧ 0 ≤ x ∧ 0 ≤ y ∧ Int.gcd x y = Int.gcd a b) (fun σ _ => match σ with
      | [_, some (.int y)] => y.toNat
      | _ => 0) ⟨_, _, rfl, rfl, by split <;> omega, by split <;> omega, ?_⟩ (fun σ H' hp => ?_) (fun σ H Q Q' hq hc => ?_)
    · have e1 : (if a < 0 then -a else a).natAbs = a.natAbs := by split <;> omega
      have e2 : (if b < 0 then -b else b).natAbs = b.natAbs := by split <;> omega
      show Nat.gcd _ _ = Nat.gcd _ _
      rw [e1, e2]
    · obtain ⟨x, y, rfl, rfl, hx, hy, hg⟩ := hp
      refine ⟨_, rfl, rfl, _, rfl, ite2 (fun h => ?_) (fun h => ?_)⟩
      · have h0 : y ≠ 0 := fun z => by
          subst z
          simp at h
        have hpos : 0 < y := by omega
        refine ⟨_, rfl, _, rfl, _, rfl, _, _, rfl, rfl, hpos, _, _, rfl, ⟨_, _, rfl, rfl, hy, Int.emod_nonneg _ h0, ?_⟩, ?_⟩
        · rw [gcd_step x y h0, hg]
        · show (x % y).toNat < y.toNat
          have h1 := Int.emod_lt_of_pos x hpos
          have h2 := Int.emod_nonneg x h0
          omega
      · have h0 : y = 0 := by
          by_cases z : y = 0
          · exact z
          · exact absurd (by simp [z]) h
        subst h0
        refine ⟨_, rfl, ?_⟩
        have e : x = (Int.gcd a b : Int) := by
          rw [← hg, Int.gcd_zero_right]
          omega
        show Q (.int x) H'
        rw [e]
        exact q
    · obtain ⟨v, e1, e2, k, e3, e4⟩ := hc
      exact ⟨v, e1, e2, k, e3, hq _ _ e4⟩
/-! ### common_multiple, multiple_of_all -/
def lcmI (a b : Int) : Int := a / (Int.gcd a b : Int) * b
def sp_common_multiple : Sp := fun vs H Q _ => ∃ a b : Int, vs = [.int a, .int b] ∧ 0 < b ∧ Bd 8000 a ∧ Bd 8000 b ∧ Q (.int (lcmI a b)) H
theorem df_common_multiple (T : Txt K mg) : Df P w K mg base 2 "common_multiple" ["one", "other"] sp_common_multiple := by
  have D_common_divisor := df_common_divisor (P := P) (w := w) (base := base) T
  refine Df.mk T.a_common_multiple sc_common_multiple (fun _ _ _ _ _ _ us hl => match us, hl with | [_, _], _ => rfl) (fun vs H Q E h => ?_) (fun f cdv A outer s H vs Q E hr h => ?_)
  · obtain ⟨a, b, rfl, _⟩ := h
    rfl
  · obtain ⟨a, b, rfl, hb, ba, bb, q⟩ := h
    refine ⟨_, (pss_one (ps_ret (pe_op op_mulW (pe_op op_fdivW (pv 0) (pe_df D_common_divisor hr (by decide) (by rfl) (pa_cons (pv 0) (pa_cons (pv 1) pa_nil)))) (pv 1)))), ?_⟩
    have hg := gcd_pos (a := a) hb
    have bg : Bd 8000 (Int.gcd a b : Int) := bb.le (by omega) (gcd_le hb)
    exact ⟨_, rfl, _, rfl, _, rfl, _, _, rfl, _, _, rfl, rfl, bg.divOk hg, _, rfl, _, _, rfl, rfl, (ba.div hg).mulOk bb, q⟩
def lcmAll (ns : List Int) : Int := ns.foldl lcmI 1
def sp_multiple_of_all (K : PySem.W.Frag) : Sp := fun vs H Q _ => ∃ (p : Addr) (ns : List Int), vs = [.ref p] ∧ SqL K H p (ns.map V.int) ∧ (∀ n ∈ ns, 0 < n ∧ Bd 8000 n) ∧ (∀ i, i ≤ ns.length → Bd 8000 ((ns.take i).foldl lcmI 1)) ∧ Q (.int (lcmAll ns)) H
theorem df_multiple_of_all (T : Txt K mg) : Df P w K mg base 3 "multiple_of_all" ["numbers"] (sp_multiple_of_all K) := by
  have D_common_multiple := df_common_multiple (P := P) (w := w) (base := base) T
  refine Df.mk T.a_multiple_of_all sc_multiple_of_all (fun _ _ _ _ _ _ us hl => match us, hl with | [_], _ => rfl) (fun vs H Q E h => ?_) (fun f cdv A outer s H vs Q E hr h => ?_)
  · obtain ⟨a, b, rfl, _⟩ := h
    rfl
  · obtain ⟨p, ns, rfl, hS, hn, hb, q⟩ := h
    refine ⟨_, (pss_cons (ps_set (i := 1) sc_multiple_of_all.nd rfl (.inl rfl) pe_int)
  (pss_cons (ps_for PassesOwn.never rfl (pi_listK (K := K) rfl (pv 0)) (pg_name (i := 2) sc_multiple_of_all.nd rfl (.inl rfl))
  (pss_one (ps_set (i := 1) sc_multiple_of_all.nd rfl (.inl rfl) (pe_df D_common_multiple hr (by decide) (by rfl) (pa_cons (pv 1) (pa_cons (pv 2) pa_nil))))))
  (pss_one (ps_ret (pv 1))))), ?_⟩
    refine ⟨_, rfl, p, rfl, ⟨_, hS⟩, for_list (K := K) (a := p) (xs := ns.map V.int) (fun i σ H' => ∃ z, σ = [some (.ref p), some (.int ((ns.take i).foldl lcmI 1)), z] ∧ H' = H) ⟨_, rfl, rfl⟩ (fun i σ H' _ h => ?_) (fun i x σ H' hx h => ?_) (fun σ H' h => ?_)⟩
    · obtain ⟨_, _, rfl⟩ := h
      exact hS
    · obtain ⟨z, rfl, rfl⟩ := h
      rw [List.getElem?_map] at hx
      obtain ⟨y, hy, rfl⟩ := Option.map_eq_some_iff.mp hx
      have hm := List.mem_of_getElem? hy
      have hi : i < ns.length := (List.getElem?_eq_some_iff.mp hy).1
      refine ⟨_, rfl, _, rfl, _, _, rfl, (hn y hm).1, hb i (by omega), (hn y hm).2, ?_⟩
      refine ⟨some (.int y), ?_, rfl⟩
      rw [List.take_add_one, hy]
      simp
    · obtain ⟨z, rfl, rfl⟩ := h
      refine ⟨_, rfl, ?_⟩
      rw [List.length_map, List.take_length]
      exact q
/-! ### fractions and turns -/
def sp_fraction_of : Sp := fun vs H Q _ => ∃ a b : Int, vs = [.int a, .int b] ∧ 0 < b ∧ Bd 8000 a ∧ Bd 8000 b ∧ ∀ H' v, Same H H' → rTurn H' v (fracOf a b) → Q v H'
theorem df_fraction_of (T : Txt K mg) : Df P w K mg base 2 "fraction_of" ["top", "bottom"] sp_fraction_of := by
  have D_common_divisor := df_common_divisor (P := P) (w := w) (base := base) T
  refine Df.mk T.a_fraction_of sc_fraction_of (fun _ _ _ _ _ _ us hl => match us, hl with | [_, _], _ => rfl) (fun vs H Q E h => ?_) (fun f cdv A outer s H vs Q E hr h => ?_)
  · obtain ⟨a, b, rfl, _⟩ := h
    rfl
  · obtain ⟨a, b, rfl, hb, ba, bb, q⟩ := h
    refine ⟨_, (pss_cons (ps_set (i := 2) sc_fraction_of.nd rfl (.inl rfl) (pe_df D_common_divisor hr (by decide) (by rfl) (pa_cons (pv 0) (pa_cons (pv 1) pa_nil))))
  (pss_cons (ps_if (pt_cmpR op_lt (pv 1) pe_int (nomark _)) (pss_one (ps_set (i := 2) sc_fraction_of.nd rfl (.inl rfl) (pe_un un_neg (pv 2)))) pss_nil)
  (pss_one (ps_ret (pe_tup (pa_cons (pe_op op_fdivW (pv 0) (pv 2)) (pa_cons (pe_op op_fdivW (pv 1) (pv 2)) pa_nil))))))), ?_⟩
    have hg := gcd_pos (a := a) hb
    have bg : Bd 8000 (Int.gcd a b : Int) := bb.le (by omega) (gcd_le hb)
    refine ⟨_, rfl, _, rfl, _, _, rfl, _, rfl, _, _, rfl, rfl, _, rfl, ?_⟩
    rw [decide_eq_false (show ¬ b < 0 by omega)]
    refine iteF ?_
    refine ⟨_, rfl, _, rfl, _, _, rfl, rfl, bg.divOk hg, _, rfl, _, rfl, _, _, rfl, rfl, bg.divOk hg, by show 2 ≤ sizeLine; decide, fun p np => ?_⟩
    exact q _ _ (same_upd np) ⟨p, rfl, upd_same⟩
def sp_t2 (k : Nat) (f : Turn → Turn → Turn) : Sp := fun vs H Q _ => ∃ v1 v2 x y, vs = [v1, v2] ∧ rTurn H v1 x ∧ rTurn H v2 y ∧ TOk k x ∧ TOk k y ∧ ∀ H' v, Same H H' → rTurn H' v (f x y) → Q v H'
theorem df_fraction_sum (T : Txt K mg) : Df P w K mg base 3 "fraction_sum" ["one", "other"] (sp_t2 3000 fracSum) := by
  have D_fraction_of := df_fraction_of (P := P) (w := w) (base := base) T
  refine Df.mk T.a_fraction_sum sc_fraction_sum (fun _ _ _ _ _ _ us hl => match us, hl with | [_, _], _ => rfl) (fun vs H Q E h => ?_) (fun f cdv A outer s H vs Q E hr h => ?_)
  · obtain ⟨_, _, _, _, rfl, _⟩ := h
    rfl
  · obtain ⟨_, _, x, y, rfl, ⟨p, rfl, hp⟩, ⟨r, rfl, hr'⟩, bx, bY, q⟩ := h
    refine ⟨_, (pss_one (ps_ret (pe_df D_fraction_of hr (by decide) (by rfl) (pa_cons (pe_op op_add (pe_op op_mulW (pe_ix (ix_tupK (K := K) rfl) (pv 0) pe_int (fun _ _ => rfl)) (pe_ix (ix_tupK (K := K) rfl) (pv 1) pe_int (fun _ _ => rfl))) (pe_op op_mulW (pe_ix (ix_tupK (K := K) rfl) (pv 1) pe_int (fun _ _ => rfl)) (pe_ix (ix_tupK (K := K) rfl) (pv 0) pe_int (fun _ _ => rfl)))) (pa_cons (pe_op op_mulW (pe_ix (ix_tupK (K := K) rfl) (pv 0) pe_int (fun _ _ => rfl)) (pe_ix (ix_tupK (K := K) rfl) (pv 1) pe_int (fun _ _ => rfl))) pa_nil))))), ?_⟩
    have i0 : ∀ {a b : V}, atI [a, b] 0 = some a := atI_nat (j := 0) rfl
    have i1 : ∀ {a b : V}, atI [a, b] 1 = some b := atI_nat (j := 1) rfl
    refine ⟨_, rfl, _, _, _, _, rfl, rfl, SqT_of hp, i0, _, rfl, _, _, _, _, rfl, rfl, SqT_of hr', i1, _, _, rfl, rfl, bx.2.1.mulOk bY.2.2,
      _, rfl, _, _, _, _, rfl, rfl, SqT_of hr', i0, _, rfl, _, _, _, _, rfl, rfl, SqT_of hp, i1, _, _, rfl, rfl, bY.2.1.mulOk bx.2.2, _, _, rfl, rfl,
      _, rfl, _, _, _, _, rfl, rfl, SqT_of hp, i1, _, rfl, _, _, _, _, rfl, rfl, SqT_of hr', i1, _, _, rfl, rfl, bx.2.2.mulOk bY.2.2, ?_⟩
    exact ⟨_, _, rfl, Int.mul_pos bx.1 bY.1, ((bx.2.1.mul bY.2.2).add (bY.2.1.mul bx.2.2)).mono (by decide), (bx.2.2.mul bY.2.2).mono (by decide), q⟩
end
end K31

set_option Elab.async false
set_option linter.all false
set_option maxRecDepth 100000
set_option maxHeartbeats 4000000
namespace K31
open PySem PySem.Spec PyProof.Rows L2
theorem i0 {a : V} {r : List V} : atI (a :: r) 0 = some a := atI_nat (j := 0) rfl
theorem i1 {a b : V} {r : List V} : atI (a :: b :: r) 1 = some b := atI_nat (j := 1) rfl
section
variable {P : Program} {w : World} {K : PySem.W.Frag} {mg : Str → Option Value} {base : Heap}
theorem df_fraction_difference (T : Txt K mg) : Df P w K mg base 3 "fraction_difference" ["one", "other"] (sp_t2 3000 fracDiff) := by
  have D_fraction_of := df_fraction_of (P := P) (w := w) (base := base) T
  refine Df.mk T.a_fraction_difference sc_fraction_difference (fun _ _ _ _ _ _ us hl => match us, hl with | [_, _], _ => rfl) (fun vs H Q E h => ?_) (fun f cdv A outer s H vs Q E hr h => ?_)
  · obtain ⟨_, _, _, _, rfl, _⟩ := h
    rfl
  · obtain ⟨_, _, x, y, rfl, ⟨p, rfl, hp⟩, ⟨r, rfl, hr'⟩, bx, bY, q⟩ := h
    refine ⟨_, (pss_one (ps_ret (pe_df D_fraction_of hr (by decide) (by rfl) (pa_cons (pe_op op_sub (pe_op op_mulW (pe_ix (ix_tupK (K := K) rfl) (pv 0) pe_int (fun _ _ => rfl)) (pe_ix (ix_tupK (K := K) rfl) (pv 1) pe_int (fun _ _ => rfl))) (pe_op op_mulW (pe_ix (ix_tupK (K := K) rfl) (pv 1) pe_int (fun _ _ => rfl)) (pe_ix (ix_tupK (K := K) rfl) (pv 0) pe_int (fun _ _ => rfl)))) (pa_cons (pe_op op_mulW (pe_ix (ix_tupK (K := K) rfl) (pv 0) pe_int (fun _ _ => rfl)) (pe_ix (ix_tupK (K := K) rfl) (pv 1) pe_int (fun _ _ => rfl))) pa_nil))))), ?_⟩
    refine ⟨_, rfl, _, _, _, _, rfl, rfl, SqT_of hp, i0, _, rfl, _, _, _, _, rfl, rfl, SqT_of hr', i1, _, _, rfl, rfl, bx.2.1.mulOk bY.2.2,
      _, rfl, _, _, _, _, rfl, rfl, SqT_of hr', i0, _, rfl, _, _, _, _, rfl, rfl, SqT_of hp, i1, _, _, rfl, rfl, bY.2.1.mulOk bx.2.2, _, _, rfl, rfl,
      _, rfl, _, _, _, _, rfl, rfl, SqT_of hp, i1, _, rfl, _, _, _, _, rfl, rfl, SqT_of hr', i1, _, _, rfl, rfl, bx.2.2.mulOk bY.2.2, ?_⟩
    exact ⟨_, _, rfl, Int.mul_pos bx.1 bY.1, ((bx.2.1.mul bY.2.2).sub (bY.2.1.mul bx.2.2)).mono (by decide), (bx.2.2.mul bY.2.2).mono (by decide), q⟩
def sp_t1 (k : Nat) (f : Turn → Turn) : Sp := fun vs H Q _ => ∃ v1 x, vs = [v1] ∧ rTurn H v1 x ∧ TOk k x ∧ ∀ H' v, Same H H' → rTurn H' v (f x) → Q v H'
theorem df_turn_left (T : Txt K mg) : Df P w K mg base 1 "turn_left" ["one"] (sp_t1 7000 turnLeft) := by
  refine Df.mk T.a_turn_left sc_turn_left (fun _ _ _ _ _ _ us hl => match us, hl with | [_], _ => rfl) (fun vs H Q E h => ?_) (fun f cdv A outer s H vs Q E hr h => ?_)
  · obtain ⟨_, _, rfl, _⟩ := h
    rfl
  · obtain ⟨_, x, rfl, ⟨p, rfl, hp⟩, bx, q⟩ := h
    refine ⟨_, (pss_one (ps_ret (pe_tup (pa_cons (pe_op op_mod (pe_ix (ix_tupK (K := K) rfl) (pv 0) pe_int (fun _ _ => rfl)) (pe_ix (ix_tupK (K := K) rfl) (pv 0) pe_int (fun _ _ => rfl))) (pa_cons (pe_ix (ix_tupK (K := K) rfl) (pv 0) pe_int (fun _ _ => rfl)) pa_nil))))), ?_⟩
    refine ⟨_, rfl, _, _, _, _, rfl, rfl, SqT_of hp, i0, _, rfl, _, _, _, _, rfl, rfl, SqT_of hp, i1, _, _, rfl, rfl, bx.1, _, rfl, _, _, _, _, rfl, rfl, SqT_of hp, i1, by show 2 ≤ sizeLine; decide, fun r nr => ?_⟩
    exact q _ _ (same_upd nr) ⟨r, rfl, upd_same⟩
theorem df_turn_sum (T : Txt K mg) : Df P w K mg base 4 "turn_sum" ["one", "other"] (sp_t2 3000 turnSum) := by
  have D_fraction_sum := df_fraction_sum (P := P) (w := w) (base := base) T
  have D_turn_left := df_turn_left (P := P) (w := w) (base := base) T
  refine Df.mk T.a_turn_sum sc_turn_sum (fun _ _ _ _ _ _ us hl => match us, hl with | [_, _], _ => rfl) (fun vs H Q E h => ?_) (fun f cdv A outer s H vs Q E hr h => ?_)
  · obtain ⟨_, _, _, _, rfl, _⟩ := h
    rfl
  · obtain ⟨_, _, x, y, rfl, h1, h2, bx, bY, q⟩ := h
    refine ⟨_, (pss_one (ps_ret (pe_df D_turn_left hr (by decide) (by rfl) (pa_cons (pe_df D_fraction_sum hr (by decide) (by rfl) (pa_cons (pv 0) (pa_cons (pv 1) pa_nil))) pa_nil)))), ?_⟩
    refine ⟨_, rfl, _, rfl, _, _, x, y, rfl, h1, h2, bx, bY, fun H1 v1 s1 r1 => ?_⟩
    exact ⟨_, _, rfl, r1, (fracSum_ok bx bY).mono (by decide), fun H2 v2 s2 r2 => q _ _ (s1.trans s2) r2⟩
theorem df_turn_difference (T : Txt K mg) : Df P w K mg base 4 "turn_difference" ["one", "other"] (sp_t2 3000 turnDiff) := by
  have D_fraction_difference := df_fraction_difference (P := P) (w := w) (base := base) T
  have D_turn_left := df_turn_left (P := P) (w := w) (base := base) T
  refine Df.mk T.a_turn_difference sc_turn_difference (fun _ _ _ _ _ _ us hl => match us, hl with | [_, _], _ => rfl) (fun vs H Q E h => ?_) (fun f cdv A outer s H vs Q E hr h => ?_)
  · obtain ⟨_, _, _, _, rfl, _⟩ := h
    rfl
  · obtain ⟨_, _, x, y, rfl, h1, h2, bx, bY, q⟩ := h
    refine ⟨_, (pss_one (ps_ret (pe_df D_turn_left hr (by decide) (by rfl) (pa_cons (pe_df D_fraction_difference hr (by decide) (by rfl) (pa_cons (pv 0) (pa_cons (pv 1) pa_nil))) pa_nil)))), ?_⟩
    refine ⟨_, rfl, _, rfl, _, _, x, y, rfl, h1, h2, bx, bY, fun H1 v1 s1 r1 => ?_⟩
    exact ⟨_, _, rfl, r1, (fracDiff_ok bx bY).mono (by decide), fun H2 v2 s2 r2 => q _ _ (s1.trans s2) r2⟩
/-- less by worth -/
def tLess (x y : Turn) : Bool := decide (x.1 * y.2 < y.1 * x.2)
def sp_is_less : Sp := fun vs H Q _ => ∃ v1 v2 x y, vs = [v1, v2] ∧ rTurn H v1 x ∧ rTurn H v2 y ∧ TOk 3000 x ∧ TOk 3000 y ∧ Q (.bl (tLess x y)) H
theorem df_is_less (T : Txt K mg) : Df P w K mg base 1 "is_less" ["one", "other"] sp_is_less := by
  refine Df.mk T.a_is_less sc_is_less (fun _ _ _ _ _ _ us hl => match us, hl with | [_, _], _ => rfl) (fun vs H Q E h => ?_) (fun f cdv A outer s H vs Q E hr h => ?_)
  · obtain ⟨_, _, _, _, rfl, _⟩ := h
    rfl
  · obtain ⟨_, _, x, y, rfl, ⟨p, rfl, hp⟩, ⟨r, rfl, hr'⟩, bx, bY, q⟩ := h
    refine ⟨_, (pss_one (ps_ret (pe_cmpR op_lt (pe_op op_mulW (pe_ix (ix_tupK (K := K) rfl) (pv 0) pe_int (fun _ _ => rfl)) (pe_ix (ix_tupK (K := K) rfl) (pv 1) pe_int (fun _ _ => rfl))) (pe_op op_mulW (pe_ix (ix_tupK (K := K) rfl) (pv 1) pe_int (fun _ _ => rfl)) (pe_ix (ix_tupK (K := K) rfl) (pv 0) pe_int (fun _ _ => rfl))) (nomark _)))), ?_⟩
    exact ⟨_, rfl, _, _, _, _, rfl, rfl, SqT_of hp, i0, _, rfl, _, _, _, _, rfl, rfl, SqT_of hr', i1, _, _, rfl, rfl, bx.2.1.mulOk bY.2.2,
      _, rfl, _, _, _, _, rfl, rfl, SqT_of hr', i0, _, rfl, _, _, _, _, rfl, rfl, SqT_of hp, i1, _, _, rfl, rfl, bY.2.1.mulOk bx.2.2, _, _, rfl, rfl, q⟩
def atB (x : Turn) (b : Int) : Int := x.1 * (b / x.2)
def sp_at_bottom : Sp := fun vs H Q _ => ∃ v x b, vs = [v, .int b] ∧ rTurn H v x ∧ TOk 3000 x ∧ Bd 8000 b ∧ Q (.int (atB x b)) H
theorem df_at_bottom (T : Txt K mg) : Df P w K mg base 1 "at_bottom" ["one", "bottom"] sp_at_bottom := by
  refine Df.mk T.a_at_bottom sc_at_bottom (fun _ _ _ _ _ _ us hl => match us, hl with | [_, _], _ => rfl) (fun vs H Q E h => ?_) (fun f cdv A outer s H vs Q E hr h => ?_)
  · obtain ⟨_, _, _, rfl, _⟩ := h
    rfl
  · obtain ⟨_, x, b, rfl, ⟨p, rfl, hp⟩, bx, bb, q⟩ := h
    refine ⟨_, (pss_one (ps_ret (pe_op op_mulW (pe_ix (ix_tupK (K := K) rfl) (pv 0) pe_int (fun _ _ => rfl)) (pe_op op_fdivW (pv 1) (pe_ix (ix_tupK (K := K) rfl) (pv 0) pe_int (fun _ _ => rfl)))))), ?_⟩
    exact ⟨_, rfl, _, _, _, _, rfl, rfl, SqT_of hp, i0, _, rfl, _, rfl, _, _, _, _, rfl, rfl, SqT_of hp, i1, _, _, rfl, rfl, bx.2.2.divOk bx.1, _, _, rfl, rfl, bx.2.1.mulOk (bb.div bx.1), q⟩
/-! ### the looks at arguments: each is right -/
theorem kitT {a b : String} {r : Bool} (h : kitB a b = some r) : PySem.W.kitOne K (.type a) (.type b) = some r := kit_ty h
def sp_is_integer : Sp := fun vs H Q _ => ∃ a : Int, vs = [.int a] ∧ Q (.bl true) H
theorem df_is_integer (T : Txt K mg) : Df P w K mg base 1 "is_integer" ["thing"] sp_is_integer := by
  refine Df.mk T.a_is_integer sc_is_integer (fun _ _ _ _ _ _ us hl => match us, hl with | [_], _ => rfl) (fun vs H Q E h => ?_) (fun f cdv A outer s H vs Q E hr h => ?_)
  · obtain ⟨_, rfl, _⟩ := h
    rfl
  · obtain ⟨a, rfl, q⟩ := h
    refine ⟨_, (pss_one (ps_ret (pe_and (pe_callB call_isi (by rfl) T.z_isinstance bt_isinstance (pa_cons (pv 0) (pa_cons (pe_bltn (v := .ty "int") (by rfl) T.z_int bt_int rfl) pa_nil))) (pe_one (pe_not (pe_callB call_isi (by rfl) T.z_isinstance bt_isinstance (pa_cons (pv 0) (pa_cons (pe_bltn (v := .ty "bool") (by rfl) T.z_bool bt_bool rfl) pa_nil)))))))), ?_⟩
    exact ⟨_, rfl, _, _, _, _, true, rfl, .ty _, .base (.int _), kitT (by decide +kernel), true, rfl, iteT ⟨_, rfl, _, _, _, _, false, rfl, .ty _, .base (.int _), kitT (by decide +kernel), false, rfl, q⟩⟩
def sp_is_from : Sp := fun vs H Q _ => ∃ a b : Int, vs = [.int a, .int b] ∧ Q (.bl (decide (a ≤ b))) H
theorem df_is_from (T : Txt K mg) : Df P w K mg base 2 "is_from" ["low", "thing"] sp_is_from := by
  have D_is_integer := df_is_integer (P := P) (w := w) (base := base) T
  refine Df.mk T.a_is_from sc_is_from (fun _ _ _ _ _ _ us hl => match us, hl with | [_, _], _ => rfl) (fun vs H Q E h => ?_) (fun f cdv A outer s H vs Q E hr h => ?_)
  · obtain ⟨_, _, rfl, _⟩ := h
    rfl
  · obtain ⟨a, b, rfl, q⟩ := h
    refine ⟨_, (pss_one (ps_ret (pe_and (pe_df D_is_integer hr (by decide) (by rfl) (pa_cons (pv 1) pa_nil)) (pe_one (pe_cmpR op_ge (pv 1) (pv 0) (nomark _)))))), ?_⟩
    exact ⟨_, rfl, _, rfl, _, rfl, iteT ⟨_, rfl, _, rfl, _, _, rfl, rfl, q⟩⟩
/-- a turn as it must be -/
def IsTurn (t : Turn) : Prop := 0 < t.2 ∧ 0 ≤ t.1 ∧ t.1 < t.2 ∧ Int.gcd t.1 t.2 = 1
def sp_is_turn : Sp := fun vs H Q _ => ∃ v x, vs = [v] ∧ rTurn H v x ∧ IsTurn x ∧ Q (.bl true) H
theorem df_is_fraction (T : Txt K mg) : Df P w K mg base 3 "is_fraction" ["thing"] sp_is_turn := by
  have D_is_integer := df_is_integer (P := P) (w := w) (base := base) T
  have D_is_from := df_is_from (P := P) (w := w) (base := base) T
  have D_common_divisor := df_common_divisor (P := P) (w := w) (base := base) T
  refine Df.mk T.a_is_fraction sc_is_fraction (fun _ _ _ _ _ _ us hl => match us, hl with | [_], _ => rfl) (fun vs H Q E h => ?_) (fun f cdv A outer s H vs Q E hr h => ?_)
  · obtain ⟨_, _, rfl, _⟩ := h
    rfl
  · obtain ⟨_, x, rfl, ⟨p, rfl, hp⟩, hx, q⟩ := h
    refine ⟨_, (pss_cons (ps_if (PW.pt (pw_or (pt_not (pt_val (pe_callB call_isi (by rfl) T.z_isinstance bt_isinstance (pa_cons (pv 0) (pa_cons (pe_bltn (v := .ty "tuple") (by rfl) T.z_tuple bt_tuple rfl) pa_nil))))) (pw_or (pt_cmpR op_ne (pe_callB call_len_seq (by rfl) T.z_len bt_len (pa_cons (pv 0) pa_nil)) pe_int (nomark _)) (pw_or (pt_not (pt_val (pe_df D_is_integer hr (by decide) (by rfl) (pa_cons (pe_ix (ix_tupK (K := K) rfl) (pv 0) pe_int (fun _ _ => rfl)) pa_nil)))) (pw_or1 (pt_not (pt_val (pe_df D_is_from hr (by decide) (by rfl) (pa_cons pe_int (pa_cons (pe_ix (ix_tupK (K := K) rfl) (pv 0) pe_int (fun _ _ => rfl)) pa_nil)))))))))) (pss_one (ps_ret pe_bl)) pss_nil)
  (pss_one (ps_ret (pe_cmpR op_eq (pe_df D_common_divisor hr (by decide) (by rfl) (pa_cons (pe_ix (ix_tupK (K := K) rfl) (pv 0) pe_int (fun _ _ => rfl)) (pa_cons (pe_ix (ix_tupK (K := K) rfl) (pv 0) pe_int (fun _ _ => rfl)) pa_nil))) pe_int (nomark _))))), ?_⟩
    refine ⟨_, rfl, _, _, _, _, true, rfl, .ty _, .base (.tup hp), kitT (by decide +kernel), true, rfl, iteF ?_⟩
    refine ⟨_, rfl, p, _, rfl, .inr (SqT_of hp), rfl, false, rfl, iteF ?_⟩
    refine ⟨_, rfl, _, _, _, _, rfl, rfl, SqT_of hp, i0, _, rfl, true, rfl, iteF ?_⟩
    refine ⟨_, rfl, _, _, _, _, rfl, rfl, SqT_of hp, i1, _, _, rfl, true, congrArg V.bl (decide_eq_true (show 1 ≤ x.2 from hx.1)), iteF ?_⟩
    refine ⟨_, rfl, _, _, _, _, rfl, rfl, SqT_of hp, i0, _, rfl, _, _, _, _, rfl, rfl, SqT_of hp, i1, _, _, rfl, rfl, ?_⟩
    rw [hx.2.2.2]
    exact q
theorem df_is_turn (T : Txt K mg) : Df P w K mg base 4 "is_turn" ["thing"] sp_is_turn := by
  have D_is_fraction := df_is_fraction (P := P) (w := w) (base := base) T
  refine Df.mk T.a_is_turn sc_is_turn (fun _ _ _ _ _ _ us hl => match us, hl with | [_], _ => rfl) (fun vs H Q E h => ?_) (fun f cdv A outer s H vs Q E hr h => ?_)
  · obtain ⟨_, _, rfl, _⟩ := h
    rfl
  · obtain ⟨_, x, rfl, ⟨p, rfl, hp⟩, hx, q⟩ := h
    refine ⟨_, (pss_one (ps_ret (pe_and (pe_df D_is_fraction hr (by decide) (by rfl) (pa_cons (pv 0) pa_nil)) (pe_one (pe_chain op_le op_lt pe_int (pe_ix (ix_tupK (K := K) rfl) (pv 0) pe_int (fun _ _ => rfl)) (pe_ix (ix_tupK (K := K) rfl) (pv 0) pe_int (fun _ _ => rfl))))))), ?_⟩
    refine ⟨_, rfl, _, x, rfl, ⟨p, rfl, hp⟩, hx, true, rfl, iteT ?_⟩
    refine ⟨_, rfl, _, _, _, _, rfl, rfl, SqT_of hp, i0, _, _, rfl, rfl, true, congrArg V.bl (decide_eq_true (show 0 ≤ x.1 from hx.2.1)), iteT ?_⟩
    refine ⟨_, rfl, _, _, _, _, rfl, rfl, SqT_of hp, i1, _, _, rfl, rfl, ?_⟩
    show Q (.bl (decide (x.1 < x.2))) H
    rw [decide_eq_true (show x.1 < x.2 from hx.2.2.1)]
    exact q
def sp_check_turn : Sp := fun vs H Q _ => ∃ v x, vs = [v] ∧ rTurn H v x ∧ IsTurn x ∧ Q .non H
theorem df_check_turn (T : Txt K mg) : Df P w K mg base 5 "check_turn" ["thing"] sp_check_turn := by
  have D_is_turn := df_is_turn (P := P) (w := w) (base := base) T
  refine Df.mk T.a_check_turn sc_check_turn (fun _ _ _ _ _ _ us hl => match us, hl with | [_], _ => rfl) (fun vs H Q E h => ?_) (fun f cdv A outer s H vs Q E hr h => ?_)
  · obtain ⟨_, _, rfl, _⟩ := h
    rfl
  · obtain ⟨_, x, rfl, hp, hx, q⟩ := h
    refine ⟨_, (pss_one (ps_if (pt_not (pt_val (pe_df D_is_turn hr (by decide) (by rfl) (pa_cons (pv 0) pa_nil)))) (pss_one ps_never) pss_nil)), ?_⟩
    exact ⟨_, rfl, _, x, rfl, hp, hx, true, rfl, iteF q⟩
/-- the names that the law uses -/
def names6 : List Str := ["a", "b", "d", "k", "x", "z"]
def IsName (z : Str) : Prop := z ∈ names6
theorem name_len {z : Str} (h : IsName z) : z.length = 1 := by
  have h0 : ∀ y ∈ names6, y.length = 1 := by decide +kernel
  exact h0 z h
theorem name_occ {z : Str} (h : IsName z) : (!(Builtin.Str.occurrences ("abcdefghijklmnopqrstuvwxyz" : Str) z 0 ("abcdefghijklmnopqrstuvwxyz" : Str).length 1).isEmpty) = true := by
  have h0 : ∀ y ∈ names6, (!(Builtin.Str.occurrences ("abcdefghijklmnopqrstuvwxyz" : Str) y 0 ("abcdefghijklmnopqrstuvwxyz" : Str).length 1).isEmpty) = true := by decide +kernel
  exact h0 z h
def sp_is_name : Sp := fun vs H Q _ => ∃ z : Str, vs = [.str z] ∧ IsName z ∧ Q (.bl true) H
theorem df_is_name (T : Txt K mg) : Df P w K mg base 1 "is_name" ["thing"] sp_is_name := by
  refine Df.mk T.a_is_name sc_is_name (fun _ _ _ _ _ _ us hl => match us, hl with | [_], _ => rfl) (fun vs H Q E h => ?_) (fun f cdv A outer s H vs Q E hr h => ?_)
  · obtain ⟨_, rfl, _⟩ := h
    rfl
  · obtain ⟨z, rfl, hz, q⟩ := h
    refine ⟨_, (pss_one (ps_ret (pe_and (pe_callB call_isi (by rfl) T.z_isinstance bt_isinstance (pa_cons (pv 0) (pa_cons (pe_bltn (v := .ty "str") (by rfl) T.z_str bt_str rfl) pa_nil))) (pe_and (pe_cmpR op_eq (pe_callB call_len_str (by rfl) T.z_len bt_len (pa_cons (pv 0) pa_nil)) pe_int (nomark _)) (pe_one (pe_cmpR op_in_str (pv 0) T.g_NAMES (by rfl))))))), ?_⟩
    refine ⟨_, rfl, _, _, _, _, true, rfl, .ty _, .base (.str _), kitT (by decide +kernel), true, rfl, iteT ?_⟩
    refine ⟨_, rfl, z, rfl, by rw [name_len hz]; decide, rfl, true, ?_, iteT ?_⟩
    · rw [name_len hz]
      rfl
    refine ⟨_, rfl, _, _, rfl, rfl, ?_⟩
    rw [name_occ hz]
    exact q
end
end K31

set_option Elab.async false
set_option linter.all false
set_option maxRecDepth 100000
set_option maxHeartbeats 4000000
namespace K31
open PySem PySem.Spec PyProof.Rows L2
/-! ### tuples stay -/
def TSame (H H' : Hp) : Prop := ∀ b xs, H b = some (.tup xs) → H' b = some (.tup xs)
theorem TSame.refl (H : Hp) : TSame H H := fun _ _ h => h
theorem TSame.trans {H H1 H2 : Hp} (a : TSame H H1) (b : TSame H1 H2) : TSame H H2 := fun c xs h => b c xs (a c xs h)
theorem TSame.of {H H' : Hp} (s : Same H H') : TSame H H' := fun _ _ h => s _ _ h
theorem TSame.set {H : Hp} {a : Addr} {o : HO} (h : ∀ xs, H a ≠ some (.tup xs)) : TSame H (upd H a o) := fun b xs e => by
  rw [upd_ne (fun z => h xs (by rw [← z]; exact e))]
  exact e
theorem TSame.lst {H : Hp} {a : Addr} {o : HO} {ys : List V} (h : H a = some (.lst ys)) : TSame H (upd H a o) := .set fun xs z => by
  rw [h] at z
  cases z
theorem TSame.dT {H : Hp} {a : Addr} {o : HO} {ys : List (List Key × V)} (h : H a = some (.dT ys)) : TSame H (upd H a o) := .set fun xs z => by
  rw [h] at z
  cases z
/-- told of tuples alone -/
structure TM {α : Type} (R : Rp α) : Prop where
  go : ∀ {H H' : Hp} {v : V} {x : α}, TSame H H' → R H v x → R H' v x
theorem TM.mono {α : Type} {R : Rp α} (h : TM R) : Mono R := ⟨fun s r => h.go (.of s) r⟩
theorem rTurn_tm : TM rTurn := ⟨fun s ⟨p, e, h⟩ => ⟨p, e, s _ _ h⟩⟩
theorem rInt_tm : TM rInt := ⟨fun _ h => h⟩
theorem rStr_tm : TM rStr := ⟨fun _ h => h⟩
theorem rPair_tm {α β : Type} {R : Rp α} {S : Rp β} (mR : TM R) (mS : TM S) : TM (rPair R S) := ⟨fun s ⟨p, x, y, e, h, a, b⟩ => ⟨p, x, y, e, s _ _ h, mR.go s a, mS.go s b⟩⟩
theorem rTupL_tm {α : Type} {R : Rp α} (mR : TM R) : TM (rTupL R) := ⟨fun s ⟨p, xs, e, h, a⟩ => ⟨p, xs, e, s _ _ h, L2.Paired.mapP a fun _ _ z => mR.go s z⟩⟩
theorem Paired.tm {α : Type} {R : Rp α} (mR : TM R) {H H' : Hp} (s : TSame H H') {xs : List V} {l : List α} (h : Paired (R H) xs l) : Paired (R H') xs l := L2.Paired.mapP h fun _ _ z => mR.go s z
theorem Paired.mono {α : Type} {R : Rp α} (mR : Mono R) {H H' : Hp} (s : Same H H') {xs : List V} {l : List α} (h : Paired (R H) xs l) : Paired (R H') xs l := L2.Paired.mapP h fun _ _ z => mR.go s z
/-- a change at an address that was not there at first -/
theorem Same.put {H1 H : Hp} {a : Addr} {o : HO} (h : H1 a = none) (s : Same H1 H) : Same H1 (upd H a o) := fun b u e => by
  rw [upd_ne (ne_of_none e h)]
  exact s _ _ e
/-- a new list whose items are told of tuples -/
def NewL {α : Type} (R : Rp α) (H0 H : Hp) (v : V) (l : List α) : Prop := ∃ p xs, v = .ref p ∧ H0 p = none ∧ H p = some (.lst xs) ∧ Paired (R H) xs l
theorem NewL.list {α : Type} {R : Rp α} {H0 H : Hp} {v : V} {l : List α} (h : NewL R H0 H v l) : rList R H v l := by
  obtain ⟨p, xs, e, _, h1, h2⟩ := h
  exact ⟨p, xs, e, h1, h2⟩
theorem fm_succ {α : Type} (F : Nat → Option α) (i : Nat) : (List.range (i + 1)).filterMap F = (List.range i).filterMap F ++ (match F i with | some a => [a] | none => []) := by
  rw [List.range_succ, List.filterMap_append]
  cases h : F i with
  | none => simp [h]
  | some a => simp [h]
theorem yes_go {A B : Hp → Prop} {σ : L2.St} {H : Hp} (h : A H) : tYes σ H fun b H3 => if b = true then A H3 else B H3 := by
  show if true = true then A H else B H
  rw [if_pos rfl]
  exact h
/-- a comprehension whose items are told of tuples -/
theorem lc_fm {J : It} {n : Nat} {G : Hp → Prop} {Y : Nat → Hp → V → Hp → Prop} (wk : Walk J n G Y) {g : TG} {tt : TT} {te : TE} {vs : List Nat} {σ : L2.St} {H1 : Hp} {D : Addr} {Qd : Hp → Prop}
    {α : Type} {R : Rp α} (mR : TM R) (F : Nat → Option α) (hz : n ≤ sizeLine) (hD : H1 D = none) (hG : ∀ H, Same H1 H → G H)
    (hs : ∀ i x H H', i < n → Same H1 H → Y i H x H' → ∀ (Qe : VK) (Ne : Hp → Prop), (∀ y H4 a, Same H H4 → F i = some a → R H4 y a → Qe y H4) → (∀ H4, Same H H4 → F i = none → Ne H4) →
      g x (wipe σ vs) H' fun σ2 H2 => wipe σ2 vs = wipe σ vs ∧ tt σ2 H2 fun b H3 => if b = true then te σ2 H3 Qe else Ne H3)
    (hd : ∀ H, Same H1 H → NewL R H1 H (.ref D) ((List.range n).filterMap F) → Qd H) :
    ∃ W : Nat → Nat → Hp → Prop, (∃ m, W 0 m (upd H1 D (.lst []))) ∧ ∀ i m H, W i m H →
      (J.stop i H ∧ Qd H) ∨ (J.go i H ∧ ∃ Nx : Hp → Prop, (∀ H', Nx H' → ∃ m', m' < m ∧ W (i + 1) m' H') ∧ ∀ x H', J.yld i H x H' → g x (wipe σ vs) H' fun σ2 H2 => wipe σ2 vs = wipe σ vs ∧ tt σ2 H2 fun b H3 =>
        if b = true then te σ2 H3 fun y H4 => ∃ acc, H4 D = some (.lst acc) ∧ acc.length < sizeLine ∧ Nx (upd H4 D (.lst (acc ++ [y]))) else Nx H3) := by
  refine lc_it wk (fun i H => Same H1 H ∧ ∃ xs, H D = some (.lst xs) ∧ xs.length ≤ i ∧ Paired (R H) xs ((List.range i).filterMap F)) ?_ (fun i H _ h => hG H h.1) (fun i x H H' hi h hy => ?_) (fun H h => ?_)
  · exact ⟨same_upd hD, [], upd_same, Nat.le_refl _, .nil⟩
  · obtain ⟨s1, xs, hx, hl, hp⟩ := h
    refine hs i x H H' hi s1 hy _ _ (fun y H4 a s4 hF hR => ?_) (fun H4 s4 hF => ?_)
    · refine ⟨xs, s4 _ _ hx, by omega, ?_⟩
      have ts : TSame H4 (upd H4 D (.lst (xs ++ [y]))) := .lst (s4 _ _ hx)
      refine ⟨Same.put hD (s1.trans s4), xs ++ [y], upd_same, by rw [List.length_append]; simp; omega, ?_⟩
      rw [fm_succ, hF]
      exact Paired.app (Paired.tm mR ((TSame.of s4).trans ts) hp) (.cons (mR.go ts hR) .nil)
    · refine ⟨s1.trans s4, xs, s4 _ _ hx, by omega, ?_⟩
      rw [fm_succ, hF]
      simp only [List.append_nil]
      exact Paired.tm mR (.of s4) hp
  · obtain ⟨s1, xs, hx, hl, hp⟩ := h
    exact hd H s1 ⟨D, xs, rfl, hD, hx, hp⟩
theorem fm_map {α β : Type} (f : α → β) : ∀ (l : List α), (List.range l.length).filterMap (fun i => l[i]?.map f) = l.map f
  | [] => rfl
  | a :: l => by
    rw [List.length_cons, List.range_succ_eq_map, List.filterMap_cons, List.filterMap_map]
    show f a :: _ = f a :: _
    congr 1
    exact fm_map f l
end K31

set_option Elab.async false
set_option linter.all false
set_option maxRecDepth 100000
set_option maxHeartbeats 4000000
namespace K31
open PySem PySem.Spec PyProof.Rows L2
/-! ### sorted of data -/
theorem each_of {α : Type} {h : Heap} : ∀ {xs : List V} {its : List Value} {l : List α}, Vals xs its → xs.length = l.length → PySem.W.EachIs (fun u (b : V × α) => RelV b.1 u) its (xs.zip l)
  | _, _, [], .nil, _ => .nil
  | _, _, [], .cons _ _, e => by simp at e
  | _, _, _ :: _, .nil, e => by simp at e
  | _, _, _ :: _, .cons r t, e => .cons r (each_of (h := h) t (by simpa using e))
theorem each_reads {X : Cx} {pins : List (Addr × Obj)} {σ : L2.St} {H : Hp} {s : Shared} {α : Type} {R : Rp α} {f : α → PyData} (I : Inv X pins σ H s) (hd : ∀ v x, R H v x → Dp X.K H v (f x)) : ∀ {xs : List V} {its : List Value} {l : List α}, Vals xs its → Paired (R H) xs l →
    PySem.W.EachIs (fun v (b : V × α) => ∃ as, Reads s.heap v (f b.2) as) its (xs.zip l)
  | _, _, _, .nil, .nil => .nil
  | _, _, _, .cons r t, .cons q u => .cons (Dp.reads I _ _ _ (hd _ _ q) r) (each_reads I hd t u)
theorem vals_each {α : Type} : ∀ {us : List Value} {bs : List (V × α)}, PySem.W.EachIs (fun u (b : V × α) => RelV b.1 u) us bs → Vals (bs.map Prod.fst) us
  | _, _, .nil => .nil
  | _, _, .cons r t => .cons r (vals_each t)
theorem zip_mem {α : Type} {F : V → α → Prop} : ∀ {xs : List V} {l : List α}, Paired F xs l → ∀ b ∈ xs.zip l, F b.1 b.2
  | _, _, .nil, b, h => by simp at h
  | _, _, .cons q u, b, h => by
    rw [List.zip_cons_cons] at h
    rcases List.mem_cons.mp h with e | h
    · rw [e]; exact q
    · exact zip_mem u b h
theorem paired_of_mem {α : Type} {F : V → α → Prop} : ∀ {bs : List (V × α)}, (∀ b ∈ bs, F b.1 b.2) → Paired F (bs.map Prod.fst) (bs.map Prod.snd)
  | [], _ => .nil
  | b :: bs, h => .cons (h b List.mem_cons_self) (paired_of_mem fun c hc => h c (List.mem_cons_of_mem _ hc))
theorem zip_snd {α : Type} : ∀ {xs : List V} {l : List α}, xs.length = l.length → (xs.zip l).map Prod.snd = l
  | [], [], _ => rfl
  | [], _ :: _, e => by simp at e
  | _ :: _, [], e => by simp at e
  | _ :: _, _ :: _, e => by
    rw [List.zip_cons_cons, List.map_cons, zip_snd (by simpa using e)]
/-- sorted(xs): xs a list of data -/
def rSortR (K : PySem.W.Frag) : List V → Hp → VK → Prop := fun vs H Q => ∃ (α : Type) (R : Rp α) (f : α → PyData) (a : Addr) (xs : List V) (l : List α), vs = [.ref a] ∧ SqL K H a xs ∧ Paired (R H) xs l ∧ (∀ v x, R H v x → Dp K H v (f x)) ∧
  PySem.W.AllAlike (l.map f) ∧ PySem.W.Sortable (l.map f) ∧ (∀ x ∈ l, (f x).depth ≤ 30) ∧ ∀ ys p, Paired (R H) ys (l.mergeSort (PySem.W.dataLe false f)) → H p = none → Q (.ref p) (upd H p (.lst ys))
theorem cr_sortedTT {X : Cx} (hu : X.A.units + 64 < cLine) : CallR X (.builtin "sorted") (rSortR X.K) := by
  intro pins s σ H vs us Q I r h
  obtain ⟨α, R, f, a, xs, l, rfl, hs, hp, hd, hal, hk, hdep, q⟩ := h
  obtain ⟨its, rv, hl, hz⟩ := I.list hs
  rw [Vals.ref1 r]
  have hlen : xs.length = l.length := PySem.Paired.length hp
  have es : (xs.zip l).map (fun b : V × α => f b.2) = l.map f := by
    rw [← zip_snd hlen, List.map_map]
    rw [zip_snd hlen]
    rfl
  have hbl : (xs.zip l).length = xs.length := by
    rw [List.length_zip, ← hlen, Nat.min_self]
  refine PySem.W.sorted_data (enc := fun b : V × α => f b.2) (R := fun u (b : V × α) => RelV b.1 u) (bs := xs.zip l) (vs := its) hl.isList (each_of (h := s.heap) rv hlen) (each_reads I hd rv hp) (by rw [es]; exact hal) (by rw [es]; exact hk) (by rw [hbl]; exact hz) (fun b hb => ?_) fun out ho eo => ?_
  · have hm : b.2 ∈ l := by
      have := List.mem_map_of_mem (f := Prod.snd) hb
      rw [zip_snd hlen] at this
      exact this
    have := hdep b.2 hm
    show X.A.units + 2 + (f b.2).depth < cLine
    omega
  · obtain ⟨ep, he'⟩ := PyProof.Rows.sortedAll_at s.heap its out.toArray
    have hv := vals_each eo
    have hlen2 : (((xs.zip l).mergeSort (PySem.W.dataLe false fun b : V × α => f b.2)).map Prod.fst).length ≤ sizeLine := by
      rw [List.length_map, List.length_mergeSort, hbl]
      exact hz
    refine ⟨.ref _, upd H (s.heap.objs.size + 1) (.lst (((xs.zip l).mergeSort (PySem.W.dataLe false fun b : V × α => f b.2)).map Prod.fst)), I.laid (t' := s.toks) (fun _ _ => PyProof.Rows.sortedAll_old) (Nat.le_succ _) ⟨hlen2, out, ep, hv, he'⟩, rfl, q _ _ ?_ (I.hok.fresh (Nat.le_succ _))⟩
    have e2 : ((xs.zip l).mergeSort (PySem.W.dataLe false fun b : V × α => f b.2)).map Prod.snd = l.mergeSort (PySem.W.dataLe false f) := by
      rw [PySem.W.sort_maps (r := PySem.W.dataLe false fun b : V × α => f b.2) (s := PySem.W.dataLe false f) Prod.snd fun a _ b _ => rfl, zip_snd hlen]
    rw [← e2]
    refine paired_of_mem fun b hb => zip_mem hp b ?_
    exact (List.mergeSort_perm _ _).mem_iff.mp hb
/-! ### a pair (int, turn) -/
abbrev IT := Int × Turn
def dIT (x : IT) : PyData := .tuple [.int x.1, dT x.2]
theorem alike_int (a b : Int) : PySem.W.alike (.int a) (.int b) = true := by simp [PySem.W.alike]
theorem alike_dT (a b : Turn) : PySem.W.alike (dT a) (dT b) = true := by simp [dT, PySem.W.alike, PySem.W.alikeAll]
theorem alike_dIT (a b : IT) : PySem.W.alike (dIT a) (dIT b) = true := by simp [dIT, PySem.W.alike, PySem.W.alikeAll, alike_dT]
theorem depth_dIT (a : IT) : (dIT a).depth ≤ 30 := by simp [dIT, dT, PyData.depth, PyData.depthAll]
theorem le_dIT {a b : IT} (h : PySem.W.dataLe false dIT a b = true) : a.1 ≤ b.1 := by
  have h1 : (!PySem.W.dataLt (dIT b) (dIT a)) = true := h
  unfold dIT at h1
  rw [PySem.W.dataLt_pair (alike_int _ _) (alike_dT _ _)] at h1
  by_cases e : b.1 = a.1
  · omega
  · have e2 : PyData.eqv (.int b.1) (.int a.1) = false := by simp [PyData.eqv, e]
    rw [e2, PySem.W.dataLt_int] at h1
    simp at h1
    exact h1
end K31

set_option Elab.async false
set_option linter.all false
set_option maxRecDepth 100000
set_option maxHeartbeats 4000000
namespace K31
open PySem PySem.Spec PyProof.Rows L2
theorem paired_int {H : Hp} : ∀ {xs : List V} {ns : List Int}, Paired (rInt H) xs ns → xs = ns.map V.int
  | _, _, .nil => rfl
  | _, _, .cons r t => by
    have r' := r
    unfold rInt at r'
    rw [r', paired_int t]
    rfl
theorem paired_bl {H : Hp} {R : Rp Bool} (hR : ∀ v b, R H v b → v = .bl b) : ∀ {xs : List V} {ns : List Bool}, Paired (R H) xs ns → xs = ns.map V.bl
  | _, _, .nil => rfl
  | _, _, .cons r t => by
    rw [hR _ _ r, paired_bl hR t]
    rfl
def rBl : Rp Bool := fun _ v i => v = .bl i
theorem rBl_tm : TM rBl := ⟨fun _ h => h⟩
theorem small3 {n : Nat} (h : n ≤ 3) : n ≤ sizeLine := Nat.le_trans h (by decide)
theorem lcmI_bd {a b : Nat} {x y : Int} (hy : 0 < y) (h : Bd a x) (g : Bd b y) : Bd (a + b) (lcmI x y) := (h.div (gcd_pos hy)).mul g
theorem lcmFold_bd {k : Nat} : ∀ (ns : List Int) (z : Int) (a : Nat), Bd a z → (∀ n ∈ ns, 0 < n ∧ Bd k n) → Bd (a + ns.length * k) (ns.foldl lcmI z)
  | [], z, a, h, _ => by simpa using h
  | n :: ns, z, a, h, hn => by
    have h1 := hn n List.mem_cons_self
    have h2 := lcmFold_bd ns (lcmI z n) (a + k) (lcmI_bd h1.1 h h1.2) fun m hm => hn m (List.mem_cons_of_mem _ hm)
    refine h2.mono ?_
    rw [List.length_cons, Nat.add_mul]
    omega
def botts (ts : List Turn) : List Int := ts.map Prod.snd
def inOrder (ts : List Turn) : List Turn := ((ts.map fun t => (atB t (lcmAll (botts ts)), t)).mergeSort (PySem.W.dataLe false dIT)).map Prod.snd
abbrev rIT : Rp IT := rPair rInt rTurn
theorem rIT_tm : TM rIT := rPair_tm rInt_tm rTurn_tm
theorem dp_IT {K : PySem.W.Frag} {H : Hp} (v : V) (x : IT) (h : rIT H v x) : Dp K H v (dIT x) := dp_pair (f := .int) (g := dT) dp_int dp_turn h
theorem botts_ok {ts : List Turn} (hn : ts.length ≤ 3) (ht : ∀ t ∈ ts, TOk 2600 t) : (∀ n ∈ botts ts, 0 < n ∧ Bd 8000 n) ∧ ∀ i, i ≤ (botts ts).length → Bd 8000 (((botts ts).take i).foldl lcmI 1) := by
  have h0 : ∀ n ∈ botts ts, 0 < n ∧ Bd 2600 n := fun n hm => by
    obtain ⟨t, h1, rfl⟩ := List.mem_map.mp hm
    exact ⟨(ht t h1).1, (ht t h1).2.2⟩
  refine ⟨fun n hm => ⟨(h0 n hm).1, (h0 n hm).2.mono (by decide)⟩, fun i _ => ?_⟩
  have h1 : Bd 1 (1 : Int) := by
    unfold Bd
    decide
  refine (lcmFold_bd ((botts ts).take i) 1 1 h1 fun n hm => h0 n (List.mem_of_mem_take hm)).mono ?_
  have h2 : ((botts ts).take i).length ≤ 3 := by
    rw [List.length_take]
    have : (botts ts).length ≤ 3 := by
      unfold botts
      rw [List.length_map]
      exact hn
    omega
  omega
section
variable {P : Program} {w : World} {K : PySem.W.Frag} {mg : Str → Option Value} {base : Heap}
def sp_in_order : Sp := fun vs H Q _ => ∃ v ts, vs = [v] ∧ rList rTurn H v ts ∧ ts.length ≤ 3 ∧ (∀ t ∈ ts, TOk 2600 t) ∧ ∀ H' v', Same H H' → NewL rTurn H H' v' (inOrder ts) → Q v' H'
theorem df_in_order (T : Txt K mg) : Df P w K mg base 4 "in_order" ["turns"] sp_in_order := by
  have D_multiple_of_all := df_multiple_of_all (P := P) (w := w) (base := base) T
  have D_at_bottom := df_at_bottom (P := P) (w := w) (base := base) T
  refine Df.mk T.a_in_order sc_in_order (fun _ _ _ _ _ _ us hl => match us, hl with | [_], _ => rfl) (fun vs H Q E h => ?_) (fun f cdv A outer s H vs Q E hr h => ?_)
  · obtain ⟨_, _, rfl, _⟩ := h
    rfl
  · obtain ⟨_, ts, rfl, ⟨a, xs, rfl, ha, hp⟩, hn, ht, q⟩ := h
    refine ⟨_, (pss_cons (ps_set (i := 1) sc_in_order.nd rfl (.inr rfl) (pe_df D_multiple_of_all hr (by decide) (by rfl) (pa_cons (pe_lc (own := [("one", 2)]) (g := gName 2) (tt := tYes) (by rfl) sc_in_order.nd (pi_listK (K := K) rfl (pv 0)) (blkOk_by (own := [("one", 2)]) (N := ["turns", "bottom", "one", "top"]) (sc := defScope s_in_order) (by decide +kernel)) (fun _ _ _ _ _ => (pg_name (i := 2) sc_in_order.nd rfl (.inl rfl))) (fun _ _ _ _ _ => pts_nil) (fun _ _ _ _ _ => (pe_ix (ix_tupK (K := K) rfl) (pv 2) pe_int (fun _ _ => rfl)))) pa_nil)))
  (pss_one (ps_ret (pe_lc (own := [("top", 3), ("one", 2)]) (g := gTup K 2 (gCons (gName 3) (gCons (gName 2) gNil))) (tt := tYes) (by rfl) sc_in_order.nd (pi_listK (K := K) rfl (pe_callB (cr_sortedTT hr.units) (by rfl) T.z_sorted bt_sorted (pa_cons (pe_lc (own := [("one", 2)]) (g := gName 2) (tt := tYes) (by rfl) sc_in_order.nd (pi_listK (K := K) rfl (pv 0)) (blkOk_by (own := [("one", 2)]) (N := ["turns", "bottom", "one", "top"]) (sc := defScope s_in_order) (by decide +kernel)) (fun _ _ _ _ _ => (pg_name (i := 2) sc_in_order.nd rfl (.inl rfl))) (fun _ _ _ _ _ => pts_nil) (fun _ _ _ _ _ => (pe_tup (pa_cons (pe_df D_at_bottom hr (by decide) (by rfl) (pa_cons (pv 2) (pa_cons (pv 1) pa_nil))) (pa_cons (pv 2) pa_nil))))) pa_nil))) (blkOk_by (own := [("top", 3), ("one", 2)]) (N := ["turns", "bottom", "one", "top"]) (sc := defScope s_in_order) (by decide +kernel)) (fun _ _ _ _ _ => (pg_tup rfl (pgs_cons (pg_name (i := 3) sc_in_order.nd rfl (.inl rfl)) (pgs_cons (pg_name (i := 2) sc_in_order.nd rfl (.inl rfl)) pgs_nil)))) (fun _ _ _ _ _ => pts_nil) (fun _ _ _ _ _ => (pv 2)))))), ?_⟩
    have hl : xs.length = ts.length := PySem.Paired.length hp
    have hz : xs.length ≤ sizeLine := small3 (by omega)
    refine ⟨_, rfl, a, rfl, ⟨xs, SqL_of ha⟩, fun D hD => lc_fm (walk_list (K := K) (a := a) (xs := xs)) rInt_tm (fun i => ts[i]?.map Prod.snd) hz hD (fun H' s' => SqL_of (s' _ _ ha)) (fun i x H1 H1' hi s1 hy Qe Ne hq hne => ?_) (fun H1 s1 hL => ?_)⟩
    · obtain ⟨rfl, hx⟩ := hy
      obtain ⟨t, ht1, p, rfl, hp1⟩ := Paired.get hp hx
      exact ⟨rfl, yes_go ⟨_, rfl, _, _, _, _, rfl, rfl, SqT_of (s1 _ _ hp1), i1, hq _ _ _ (Same.refl _) (by rw [ht1]; rfl) rfl⟩⟩
    · rw [hl, fm_map] at hL
      obtain ⟨p, ys, e1, hnp, hlp, hpp⟩ := hL
      cases e1
      have e2 := paired_int hpp
      subst e2
      obtain ⟨b1, b2⟩ := botts_ok hn ht
      refine ⟨D, botts ts, rfl, SqL_of hlp, b1, b2, ?_⟩
      -- sorted([(at_bottom(one, bottom), one) for one in turns])
      have ha1 := s1 _ _ ha
      refine ⟨_, rfl, a, rfl, ⟨xs, SqL_of ha1⟩, fun D2 hD2 => lc_fm (walk_list (K := K) (a := a) (xs := xs)) rIT_tm (fun i => ts[i]?.map fun t => (atB t (lcmAll (botts ts)), t)) hz hD2 (fun H' s' => SqL_of (s' _ _ ha1)) (fun i x H2 H2' hi s2 hy Qe Ne hq hne => ?_) (fun H2 s2 hL2 => ?_)⟩
      · obtain ⟨rfl, hx⟩ := hy
        obtain ⟨t, ht1, p, rfl, hp1⟩ := Paired.get hp hx
        have hp2 := s2 _ _ (s1 _ _ hp1)
        have tm := List.mem_of_getElem? ht1
        refine ⟨rfl, yes_go ⟨_, rfl, _, rfl, _, t, _, rfl, ⟨p, rfl, hp2⟩, (ht t tm).mono (by decide), ?_, _, rfl, by show 2 ≤ sizeLine; decide, fun r hr' => ?_⟩⟩
        · have := b2 (botts ts).length (Nat.le_refl _)
          rw [List.take_length] at this
          exact this
        · exact hq _ _ (atB t (lcmAll (botts ts)), t) (same_upd hr') (by rw [ht1]; rfl) ⟨r, _, _, rfl, upd_same, rfl, p, rfl, (same_upd hr') _ _ hp2⟩
      · rw [hl, fm_map] at hL2
        obtain ⟨p2, ys2, e2, hnp2, hlp2, hpp2⟩ := hL2
        cases e2
        refine ⟨IT, rIT, dIT, D2, ys2, _, rfl, SqL_of hlp2, hpp2, dp_IT, PySem.W.AllAlike.of alike_dIT, PySem.W.Sortable.tuples fun b => ⟨_, _, rfl⟩, fun x _ => depth_dIT x, fun zs r hzs hr' => ?_⟩
        have s3 : Same H2 (upd H2 r (.lst zs)) := same_upd hr'
        have hzl : zs.length ≤ sizeLine := by
          have := PySem.Paired.length hzs
          rw [List.length_mergeSort, List.length_map] at this
          omega
        refine ⟨r, rfl, ⟨zs, SqL_of upd_same⟩, fun D3 hD3 => lc_fm (walk_list (K := K) (a := r) (xs := zs)) rTurn_tm (fun i => ((ts.map fun t => (atB t (lcmAll (botts ts)), t)).mergeSort (PySem.W.dataLe false dIT))[i]?.map Prod.snd) hzl hD3 (fun H' s' => SqL_of (s' _ _ upd_same)) (fun i x H4 H4' hi s4 hy Qe Ne hq hne => ?_) (fun H4 s4 hL4 => ?_)⟩
        · obtain ⟨rfl, hx⟩ := hy
          obtain ⟨t, ht1, p, x1, x2, rfl, hp1, r1, r2⟩ := Paired.get hzs hx
          have hp2 := s4 _ _ (s3 _ _ hp1)
          exact ⟨p, _, rfl, SqT_of hp2, rfl, _, _, rfl, _, _, rfl, rfl, rfl, yes_go ⟨_, rfl, hq _ _ _ (Same.refl _) (by rw [ht1]; rfl) (rTurn_tm.go (TSame.of (s3.trans s4)) r2)⟩⟩
        · have ez : zs.length = ((ts.map fun t => (atB t (lcmAll (botts ts)), t)).mergeSort (PySem.W.dataLe false dIT)).length := PySem.Paired.length hzs
          rw [ez, fm_map] at hL4
          have s5 : Same H H4 := s1.trans (s2.trans (s3.trans s4))
          obtain ⟨p5, ys5, e5, hn5, hl5, hp5⟩ := hL4
          cases e5
          exact q _ _ s5 ⟨D3, ys5, rfl, (s1.trans (s2.trans s3)).free hn5, hl5, hp5⟩
end
end K31

set_option Elab.async false
set_option linter.all false
set_option maxRecDepth 100000
set_option maxHeartbeats 4000000
set_option pp.maxSteps 300
namespace K31
open PySem PySem.Spec PyProof.Rows L2
/-! ### a dict with tuple keys, walked by items -/
theorem frozen_items {X : Cx} {pins : List (Addr × Obj)} {σ : L2.St} {H : Hp} {s : Shared} {d : Addr} {o : Obj} {kvs : List (List Key × V)} (I : Inv X pins σ H s) (h : H d = some (.frz o (.dT kvs))) :
    (d == sysModules) = false ∧ s.heap.get? d = some o ∧ ∃ (es : Array DictEntry) (ep : Nat), o.data = .dict es ep ∧ s.heap.DictRaw d es ep ∧ es.size = kvs.length ∧
      ∀ (i : Nat) (hi : i < es.size), ∃ (k : List Key) (v : V) (q : Addr), kvs[i]? = some (k, v) ∧ es[i].key = .ref q ∧ H q = some (.tup (k.map kV)) ∧ RelV v es[i].val := by
  obtain ⟨hd, z, hs, xs, pr, o', es, ep, ho, hx, hdt, he, _⟩ := I.hok d _ h
  rw [hd] at ho
  cases ho
  have l1 : es.size = xs.length := size_of_entries he
  have l2 : kvs.length = xs.length := PySem.Paired.length pr
  refine ⟨hs, hd, es, ep, hdt, ⟨_, hd, hx, hdt⟩, by omega, fun i hi => ?_⟩
  have hix : i < xs.length := by omega
  obtain ⟨⟨k, v⟩, hk1, e1, e2, e3⟩ := Paired.getR pr (List.getElem?_eq_getElem hix)
  have q := entry_at he i
  rw [List.getElem?_eq_getElem hix, Array.getElem?_eq_getElem hi, Option.map_some] at q
  have q' := Option.some.inj q
  refine ⟨k, v, xs[i].2.1, hk1, by rw [q']; rfl, e2, ?_⟩
  rw [q']
  exact e3
/-- the pairs of the frozen dict at d, each a new tuple -/
def ItiT (d : Addr) (o : Obj) (kvs : List (List Key × V)) : It :=
  ⟨fun i H => H d = some (.frz o (.dT kvs)) ∧ i < kvs.length,
   fun i H x H' => ∃ T k v q, kvs[i]? = some (k, v) ∧ H q = some (.tup (k.map kV)) ∧ x = .ref T ∧ H T = none ∧ H' = upd H T (.tup [.ref q, v]),
   fun i H => H d = some (.frz o (.dT kvs)) ∧ kvs.length ≤ i⟩
section
variable {P : Program} {w : World} {K : PySem.W.Frag} {d : Addr} {o : Obj} {es : Array DictEntry} {ep : Nat}
theorem turn_itemsT {kvs : List (List Key × V)} {elts : List Expr} {kk : Nat} {tpos : Pos} (it : Addr) (hod : o.data = .dict es ep) :
    L2.Turn P w K (.Tuple elts kk tpos) (ItiT d o kvs) [it] it (fun i h => ∃ x1 x2, IsItemIter h it d i kvs.length ep x1 x2) where
  mem := List.mem_singleton.mpr rfl
  obj := fun i h st b hb => by
    obtain rfl : b = it := List.mem_singleton.mp hb
    obtain ⟨x1, x2, e⟩ := st
    exact ⟨_, e, fun v z => nomatch z⟩
  keep := fun i h h' ⟨x1, x2, e⟩ k => ⟨x1, x2, k it (List.mem_singleton.mpr rfl) _ e⟩
  item := by
    intro X hP hw hK hc i pins s σ H E I hf st hg
    subst hP hw hK
    obtain ⟨hd, hi⟩ := hg
    obtain ⟨hs, hgd, es', ep', hdt, hraw, hsz, ent⟩ := frozen_items I hd
    rw [hod] at hdt
    cases hdt
    obtain ⟨x1, x2, he⟩ := st
    rw [← hsz] at he
    have hi' : i < es.size := by omega
    obtain ⟨k, v, q, hkv, hkey, hq, rv⟩ := ent i hi'
    have hlt : it < s.heap.objs.size := Heap.lt_size he
    refine wpAny_pyNext_items_item_raw he hraw hi' fun h' ho hT hz hk => ?_
    refine ⟨_, rfl, wpAny_letOwnedTupleGo_items (s := { s with heap := h' }) ho fun h'' he' sb => ?_⟩
    have hT2 : h''.get? s.heap.objs.size = some { cls := .type "tuple", data := .seq #[es[i].key, es[i].val] } := (sb.2 _ (Nat.ne_of_gt hlt)).trans hT
    have new : ObjOk X.prog X.w (upd H s.heap.objs.size (.tup [.ref q, v])) h'' s.heap.objs.size (.tup [.ref q, v]) :=
      ⟨by show 2 ≤ sizeLine; decide, [es[i].key, es[i].val], .cons hkey (.cons rv .nil), ⟨_, hT2, rfl, _, rfl⟩⟩
    have I1 : Inv X pins σ (upd H s.heap.objs.size (.tup [.ref q, v])) { s with heap := h'' } :=
      I.turnedNew (t' := s.toks) (ch := [it]) (fun b ob hb e => (sb.2 b fun z => hb (List.mem_singleton.mpr z)).trans (hk b ob (fun z => hb (List.mem_singleton.mpr z)) e)) hf (Nat.le_refl _) new
    refine ⟨.ref s.heap.objs.size, _, I1, rfl, ⟨_, k, v, q, hkv, hq, rfl, I.hok.fresh (Nat.le_refl _), rfl⟩, ⟨es[i].key, es[i].val, ?_⟩, fun b hb => ?_⟩
    · rw [← hsz]
      exact he'
    · obtain rfl : b = it := List.mem_singleton.mp hb
      rw [upd_ne (Nat.ne_of_lt hlt)]
      exact (hf b hb).1
  done := by
    intro X hP hw hK hc i pins s σ H E I hf st hg
    subst hP hw hK
    obtain ⟨hd, hi⟩ := hg
    obtain ⟨f0, f1, f2, f3, f4, f5⟩ := hf it (List.mem_singleton.mpr rfl)
    obtain ⟨hs, hgd, es', ep', hdt, hraw, hsz, ent⟩ := frozen_items I hd
    rw [hod] at hdt
    cases hdt
    obtain ⟨x1, x2, he⟩ := st
    rw [← hsz] at he
    exact wpAny_pyNext_items_end_raw (I.ok.hd hc) he hraw (by omega) fun h' eb => ⟨rfl, I.turned (t' := s.toks) (fun b ob hb e => eb b ob hb e) f0 f1 f3 f4 f5⟩
  self := fun A i s Q E ⟨_, _, e⟩ h => PySem.W.kcp_self e h
end
/-- for k, v in d.items(): the dict is frozen from here on -/
def iItemsT (td : TE) : TI := fun σ H R => td σ H fun x H1 => ∃ d kvs, x = .ref d ∧ H1 d = some (.dT kvs) ∧ ∀ od, R (ItiT d od kvs) (upd H1 d (.frz od (.dT kvs)))
theorem pi_itemsT {X : Cx} {e : Expr} {td : TE} {apos cpos : Pos} {elts : List Expr} {kk : Nat} {tpos : Pos} (he : PE X e td) (hbase : attributeBase e "items" X.env (eval e X.env) = eval e X.env := by rfl) (hline : (apos.endLine == cpos.line) = true := by rfl) :
    PI X (.Tuple elts kk tpos) (.Call (.Attribute e "items" apos) [] [] cpos) (iItemsT td) := by
  refine ⟨fun pins s σ H R I h => ?_⟩
  refine wpAny_Call_method (T := "dict") (id := "dict.items") hbase rfl hline F.plainAttrs_dict F.slot_dict_items F.type_dict_items (thn (he.run pins s σ H _ I h) fun u s1 ⟨x, H1, I1, rx, d, kvs, ex, hd, q⟩ => ?_)
  subst ex
  obtain rfl : u = Value.ref d := rx
  obtain ⟨od, I0⟩ := I1.lock hd trivial
  have q0 := q od
  obtain ⟨hs, hgd, es, ep, hdt, hraw, hsz, ent⟩ := frozen_items I0 upd_same
  have hnd := (show od.ExactDict from by
    obtain ⟨o', h1, h2, h3⟩ := hraw
    rw [hgd] at h1
    cases h1
    exact h2)
  refine ⟨hraw.typeIs, ?_, ?_⟩
  · intro a e
    cases e
    exact ⟨od, hgd, hnd.2.1⟩
  have I2 : Inv X pins σ (upd H1 d (.frz od (.dT kvs))) { s1 with heap := s1.heap.push { cls := .type "dict_items", data := .fields #[.ref d] } } := I0.kept (t' := s1.toks) fun b ob q => Heap.get?_push_of_some _ q
  have fin : wpAny (model X.prog X.w) X.A (pyIter (.ref s1.heap.objs.size)) (PIE X pins σ (.Tuple elts kk tpos) R) X.xe { s1 with heap := s1.heap.push { cls := .type "dict_items", data := .fields #[.ref d] } } := by
    refine wpAny_pyIter_items_raw (d := d) (es := es) (ep := ep) ⟨_, Heap.get?_push_size _ rfl, rfl, rfl⟩ (hraw.at fun ob z => Heap.get?_push_of_some _ z) (pi_one (tk := s1.toks) I2 _ (turn_itemsT _ hdt) ⟨.none, .none, ?_⟩ q0)
    rw [← hsz]
    exact Heap.get?_push_size _ rfl
  show wpAny _ _ (callWith cpos (.builtin "dict.items") [.ref d] [] []) _ X.xe s1
  exact method_meetsIn F.slot_dict_items F.entry_dict_items rfl (PySem.evalArgs_none ⟨rfl, hraw.typeIs, F.args_dict_items_1 _, _, meets_dict_items_raw d hs, ⟨es, ep, hraw⟩, fin⟩)
theorem walk_itemsT {d : Addr} {o : Obj} {kvs : List (List Key × V)} : Walk (ItiT d o kvs) kvs.length (fun H => H d = some (.frz o (.dT kvs)))
    (fun i H x H' => ∃ T k v q, kvs[i]? = some (k, v) ∧ H q = some (.tup (k.map kV)) ∧ x = .ref T ∧ H T = none ∧ H' = upd H T (.tup [.ref q, v])) :=
  ⟨fun _ _ hi q => ⟨q, hi⟩, fun _ q => ⟨q, Nat.le_refl _⟩, fun _ _ _ _ _ _ y => y⟩
/-! ### xs[i] read, for xs[i] -= e -/
/-- a list at a place from 0 on, as a value that is read -/
def rGetL (K : PySem.W.Frag) : V → V → Hp → VK → Prop := fun o i H Q => ∃ (p : Addr) (xs : List V) (j : Nat) (v : V), o = .ref p ∧ i = .int (j : Int) ∧ SqL K H p xs ∧ xs[j]? = some v ∧ Q v H
theorem get_listK {X : Cx} {K : PySem.W.Frag} (e : X.K = K) : PGet X (rGetL K) := by
  subst e
  intro pins s σ H o i ov iv Q I ro ri h
  obtain ⟨p, xs, j, v, rfl, rfl, hq, hx, q⟩ := h
  cases ro
  obtain ⟨t, rfl⟩ := ri
  obtain ⟨its, r, pl, hz⟩ := I.list hq
  obtain ⟨w, ew, rw'⟩ := r.get hx
  have hn := line63
  have hj : j < xs.length := (List.getElem?_eq_some_iff.mp hx).1
  exact wpAny_getItem_list (x := w) pl.isList (by omega) (by omega) (by simpa using ew) ⟨v, H, I, rw', q⟩
/-! ### {k: v for ..} with tuple keys -/
theorem put_tup {X : Cx} {pins : List (Addr × Obj)} {σ : L2.St} {H : Hp} {s : Shared} {A : Around} {E : Value → Shared → Prop} {D b : Addr} {kvs : List (List Key × V)} {k : List Key} {v : V} {r : Value} {Q : Unit → Shared → Prop} (hu : A.units < cLine) (I : Inv X pins σ H s) (hD : H D = some (.dT kvs)) (hz : kvs.length < sizeLine)
    (eb : H b = some (.tup (k.map kV))) (rv : RelV v r) (h : ∀ s', Inv X pins σ (upd H D (.dT (putK kvs k v))) s' → Q () s') : wpAny (model X.prog X.w) A (dictSet D (.ref b) r) Q E s := by
  obtain ⟨z, hd, xs, rel, dd⟩ := dt_of I.hok hD
  have hxz : xs.length ≤ sizeLine := by
    rw [← PySem.Paired.length rel]
    exact z
  have hl : (putK kvs k v).length ≤ sizeLine := by
    have := length_putK kvs k v
    omega
  refine wpAny_dictSet_heap (hsz := hxz) hu (key_of I.hok eb) dd fun h' dd' hs => h _ ?_
  obtain ⟨q, es, ep, g1, g2, g3, g4, _, g5⟩ := dd'
  refine d_write I (by rw [hD]; exact True.intro) hs ⟨q, g1⟩ ⟨hl, hd, _, (rel.put k eb rv).keeps fun c ys ec => ?_, q, es, ep, g1, g2, g3, g4, g5⟩
  rw [upd_ne (ne_of ec hD fun z => nomatch z)]
  exact ec
/-- {k: v for target in iter if ..}, keys tuples: D the new dict -/
def tDcT (wi : TI) (g : TG) (tt : TT) (tk tv : TE) (vs : List Nat) : TE := fun σ H Q => wi σ H fun J H1 => ∀ D, H1 D = none → ∃ W : Nat → Nat → Hp → Prop, (∃ m, W 0 m (upd H1 D (.dT []))) ∧ ∀ i m H, W i m H →
  (J.stop i H ∧ Q (.ref D) H) ∨ (J.go i H ∧ ∃ Nx : Hp → Prop, (∀ H', Nx H' → ∃ m', m' < m ∧ W (i + 1) m' H') ∧ ∀ x H', J.yld i H x H' → g x (wipe σ vs) H' fun σ2 H2 => wipe σ2 vs = wipe σ vs ∧ tt σ2 H2 fun b H3 =>
    if b = true then tk σ2 H3 fun y H4 => tv σ2 H4 fun z H5 => ∃ kvs k b, y = .ref b ∧ H5 b = some (.tup (k.map kV)) ∧ H5 D = some (.dT kvs) ∧ kvs.length < sizeLine ∧ Nx (upd H5 D (.dT (putK kvs k z))) else Nx H3)
theorem dcT_core {X : Cx} {pins : List (Addr × Obj)} {s : Shared} {σ : L2.St} {H : Hp} {Q : VK} {kx vx tg iter : Expr} {ifs : List Expr} {scope : Scope} {own : List (Str × Nat)} {pos pos' : Pos} {wi : TI} {g : TG} {tt : TT} {tk tv : TE} {use : Option (Value → Sem Unit)} {Qf : Value → Shared → Prop}
    (hu : X.A.units < cLine) (hc : X.calm = true) (hN : X.N.Nodup) (I : Inv X pins σ H s) (hi : PI X tg iter wi) (ok : BlkOk X.N X.env.scope scope own)
    (hg : ∀ (s : Shared) (H : Hp) (C : Addr) (cl : List (Str × Addr)) (fp : List Addr), PG (X.blk s H scope (compEnvC scope cl C X.env) fp) tg g) (ht : ∀ (s : Shared) (H : Hp) (C : Addr) (cl : List (Str × Addr)) (fp : List Addr), PTs (X.blk s H scope (compEnvC scope cl C X.env) fp) ifs tt)
    (hk : ∀ (s : Shared) (H : Hp) (C : Addr) (cl : List (Str × Addr)) (fp : List Addr), PE (X.blk s H scope (compEnvC scope cl C X.env) fp) kx tk)
    (he : ∀ (s : Shared) (H : Hp) (C : Addr) (cl : List (Str × Addr)) (fp : List Addr), PE (X.blk s H scope (compEnvC scope cl C X.env) fp) vx tv) (hs : ∀ x, foldedSetIterable iter X.env x = pure x)
    (h : tDcT wi g tt tk tv (own.map (·.2)) σ H Q)
    (out : ∀ D C s' m H', Inv X pins σ H' s' → Q (.ref D) H' → s'.heap.Ns C m → FpOk X pins H' C → compPost (model X.prog X.w) X.A X.xe use Qf (.ref D) C (.ok .next) s') :
    wpAny (model X.prog X.w) X.A (comprehension (.DictComp kx vx [⟨tg, iter, ifs, 0⟩] scope pos) scope X.env pos' newDict false (eval iter X.env) use) Qf X.xe s := by
  have cells : ∀ y ∈ scope.names, y.2 = .free → ∃ c, X.env.cells.lookup y.1 = some c := fun y hy e =>
    (ok.free y hy e).elim (fun k => I.ok.has _ (.inl k)) fun k => I.ok.has _ (.inr k)
  refine wpAny_comprehension_free (use := use) rfl hs (closure_ok cells) ok.kind (fun y hy e => by rw [ok.uniq y hy, e])
    (thn (hi.run pins s σ H _ I h) fun xv s1 hx => thn hx fun itv s2 h2 => ?_)
  obtain ⟨it, fp, tn, J, H2, rfl, I2, T, st2, f2, q⟩ := h2
  refine wpAny_newObj_type (newEnv_comp ?_)
  -- the new dict
  generalize hD : s2.heap.objs.size = D
  have hDn : H2 D = none := I2.hok.fresh (Nat.le_of_eq hD)
  obtain ⟨W, ⟨m0, w0⟩, turn⟩ := q D hDn
  generalize hs3 : ({ s2 with heap := s2.heap.push { cls := .type "dict", data := .dict #[] } } : Shared) = s3
  have h3 : s3.heap = s2.heap.push { cls := .type "dict", data := .dict #[] } := by rw [← hs3]
  have I3 : Inv X pins σ (upd H2 D (.dT [])) s3 := by
    rw [← hs3]
    refine I2.laid (t' := s2.toks) (fun b o e => Heap.get?_push_of_some _ e) (Nat.le_of_eq hD) ?_
    rw [← hD]
    exact dt_empty s2.heap I2.big
  have f3 : ∀ b ∈ fp, FpOk X pins (upd H2 D (.dT [])) b ∧ b < s3.heap.objs.size := fun b hb => by
    obtain ⟨o, e, _⟩ := T.obj _ _ st2 b hb
    have hlt := Heap.lt_size e
    refine ⟨⟨?_, (f2 b hb).2⟩, by rw [h3, Heap.size_push]; exact Nat.lt_succ_of_lt hlt⟩
    rw [upd_ne (by rw [← hD]; exact Nat.ne_of_lt hlt)]
    exact (f2 b hb).1
  have st3 : tn 0 s3.heap := T.keep _ _ _ st2 fun b _ o e => by rw [h3]; exact Heap.get?_push_of_some _ e
  have I4 := block_start I3 ok hN f3
  have pg := hg s3 (upd H2 D (.dT [])) s3.heap.objs.size (cellsFrom (s3.heap.objs.size + 1) scope.names (cloFrom X.env.cells scope.names [])) fp
  have pt := ht s3 (upd H2 D (.dT [])) s3.heap.objs.size (cellsFrom (s3.heap.objs.size + 1) scope.names (cloFrom X.env.cells scope.names [])) fp
  have pk := hk s3 (upd H2 D (.dT [])) s3.heap.objs.size (cellsFrom (s3.heap.objs.size + 1) scope.names (cloFrom X.env.cells scope.names [])) fp
  have pe := he s3 (upd H2 D (.dT [])) s3.heap.objs.size (cellsFrom (s3.heap.objs.size + 1) scope.names (cloFrom X.env.cells scope.names [])) fp
  show codeAny _ _ (.compStart (.DictComp kx vx [⟨tg, iter, ifs, 0⟩] scope pos) 0 (.ref it) (.ref D) (compEnvC scope (cellsFrom (s3.heap.objs.size + 1) scope.names (cloFrom X.env.cells scope.names [])) s3.heap.objs.size X.env)) (compPost (model X.prog X.w) X.A X.xe use Qf (.ref D) s3.heap.objs.size) { s3 with heap := pushCells (s3.heap.push { cls := .type "dict", data := .dict #[] }) scope.names }
  generalize hce : compEnvC scope (cellsFrom (s3.heap.objs.size + 1) scope.names (cloFrom X.env.cells scope.names [])) s3.heap.objs.size X.env = ce at I4 pg pt pk pe ⊢
  have cL : ce.locals = s3.heap.objs.size := by
    subst hce
    rfl
  generalize hH3 : upd H2 D (.dT []) = H3 at I3 I4 pg pt pk pe w0 f3
  generalize hs4 : ({ s3 with heap := pushCells (s3.heap.push { cls := .type "dict", data := .dict #[] }) scope.names } : Shared) = s4 at I4 ⊢
  have st4 : tn 0 s4.heap := T.keep _ _ _ st3 fun b _ o e => by
    rw [← hs4]
    exact pushCells_keeps _ _ _ _ (Heap.get?_push_of_some _ e)
  let X' : Cx := X.blk s3 H3 scope ce fp
  have stat : ∀ {σ' : L2.St} {H' : Hp} {s' : Shared}, Inv X' [] σ' H' s' → (∀ b ∈ fp, H' b = none) → ∀ b ∈ fp, FpOk X' [] H' b := fun I' hn b hb =>
    ⟨hn b hb, (I'.ok.exf b hb).1, I'.ok.exfs b hb, .inl hb, fun x c e => (I'.ok.exf b hb).2 x c e, fun p hp => absurd (show p ∈ ([] : List (Addr × Obj)) ++ [] from hp) (by simp)⟩
  refine codeAny_compStart_dict ?loop (T.self X.A 0 _ _ _ st4 ?loop)
  refine compLoop_anyD (fun n s' => ∃ i H', Inv X' [] (wipe σ (own.map (·.2))) H' s' ∧ tn i s'.heap ∧ (∀ b ∈ fp, H' b = none) ∧ W i n H') ?_ m0 ⟨0, H3, I4, st4, fun b hb => (f3 b hb).1.1, w0⟩
  rintro n s5 ⟨i, H5, I5, st5, n5, w5⟩
  rcases turn i n H5 w5 with ⟨stop, qq⟩ | ⟨go, Nx, hNx, step⟩
  · refine thnF (T.done X' rfl rfl rfl hc i [] s5 _ H5 (fun _ _ => False) I5 (stat I5 n5) st5 stop) fun r s6 ⟨hr, I6⟩ => ?_
    subst hr
    have I7 : Inv X pins σ H5 s6 := I3.call' (ch := fp) I6.os I6.base I6.hok I6.bare fun b hb => ⟨(f3 b hb).1.2.2.2.1, (f3 b hb).1.2.1, (f3 b hb).1.2.2.2.2.1, (f3 b hb).1.2.2.2.2.2⟩
    have nC : H5 s3.heap.objs.size = none := by
      rw [← cL]
      exact I6.free
    obtain ⟨m, hn, _⟩ := I6.loc
    have hn2 : s6.heap.Ns s3.heap.objs.size m := by
      rw [← cL]
      exact hn
    exact out D s3.heap.objs.size s6 m H5 I7 qq hn2 (I3.fpOk (Nat.le_refl _) nC)
  · refine thnF (T.item X' rfl rfl rfl hc i [] s5 _ H5 (fun _ _ => False) I5 (stat I5 n5) st5 go) fun r s6 ⟨u, hr, h6⟩ => ?_
    subst hr
    refine thnF h6 fun _ s7 ⟨x, H7, I7, r7, y7, st7, n7⟩ => ?_
    have I7' := I7.pinned (stat I7 n7) (T.obj _ _ st7)
    refine thnF (pg.run _ s7 _ H7 x u _ I7' r7 (step x H7 y7)) fun _ s8 ⟨σ8, H8, I8, hw8, q8⟩ => ?_
    refine thnF (pt.run _ s8 σ8 H8 _ I8 q8) fun b s9 ⟨H9, I9, q9⟩ => ?_
    have fin : ∀ {s' : Shared} {H' : Hp}, Inv X' ([] ++ pinsAt fp s7.heap) σ8 H' s' → Nx H' → ∃ m, m < n ∧ ∃ i H', Inv X' [] (wipe σ (own.map (·.2))) H' s' ∧ tn i s'.heap ∧ (∀ b ∈ fp, H' b = none) ∧ W i m H' := fun {s' H'} I' nx => by
      obtain ⟨m', hm, w'⟩ := hNx H' nx
      have pin' : ∀ b ∈ fp, ∀ o, s7.heap.get? b = some o → s'.heap.get? b = some o ∧ H' b = none := fun b hb o e =>
        let z := I'.pin (b, o) (List.mem_append_right _ (List.mem_append_right _ (mem_pinsAt hb e)))
        ⟨z.1, z.2.1⟩
      have hl : (wipe σ (own.map (·.2))).length = σ8.length := by rw [← hw8, wipe_length]
      refine ⟨m', hm, i + 1, H', (I'.unpinned (pins := [])).weak hl (fun j v e => ?_), T.keep _ _ _ st7 fun b hb o e => (pin' b hb o e).1, fun b hb => ?_, w'⟩
      · rw [← hw8] at e
        exact (wipe_some e).1
      · obtain ⟨o, e, _⟩ := T.obj _ _ st7 b hb
        exact (pin' b hb o e).2
    cases b with
    | false =>
      simp only [Bool.false_eq_true, if_false] at q9 ⊢
      exact fin I9 q9
    | true =>
      simp only [if_true] at q9 ⊢
      refine thnF (pk.run _ s9 σ8 H9 _ I9 q9) fun z s10 ⟨yk, H10, I10, r10, q10⟩ => ?_
      refine thnF (pe.run _ s10 σ8 H10 _ I10 q10) fun z2 s11 ⟨yv, H11, I11, r11, kvs, k, bk, ek, ebk, hD11, hz11, nx⟩ => ?_
      subst ek
      cases (show z = Value.ref bk from r10)
      exact put_tup (X := X') hu I11 hD11 hz11 ebk r11 fun s12 I12 => fin I12 nx
theorem pe_dcT {X : Cx} {kx vx tg iter : Expr} {ifs : List Expr} {scope : Scope} {own : List (Str × Nat)} {pos : Pos} {wi : TI} {g : TG} {tt : TT} {tk tv : TE} (hu : X.A.units < cLine) (hc : X.calm = true) (hN : X.N.Nodup) (hi : PI X tg iter wi) (ok : BlkOk X.N X.env.scope scope own)
    (hg : ∀ (s : Shared) (H : Hp) (C : Addr) (cl : List (Str × Addr)) (fp : List Addr), PG (X.blk s H scope (compEnvC scope cl C X.env) fp) tg g) (ht : ∀ (s : Shared) (H : Hp) (C : Addr) (cl : List (Str × Addr)) (fp : List Addr), PTs (X.blk s H scope (compEnvC scope cl C X.env) fp) ifs tt)
    (hk : ∀ (s : Shared) (H : Hp) (C : Addr) (cl : List (Str × Addr)) (fp : List Addr), PE (X.blk s H scope (compEnvC scope cl C X.env) fp) kx tk)
    (he : ∀ (s : Shared) (H : Hp) (C : Addr) (cl : List (Str × Addr)) (fp : List Addr), PE (X.blk s H scope (compEnvC scope cl C X.env) fp) vx tv) (hs : ∀ x, foldedSetIterable iter X.env x = pure x := by intro _; rfl) :
    PE X (.DictComp kx vx [⟨tg, iter, ifs, 0⟩] scope pos) (tDcT wi g tt tk tv (own.map (·.2))) := by
  refine ⟨fun pins s σ H Q I h => ?_⟩
  rw [arm_eval_DictComp]
  refine dcT_core hu hc hN I hi ok hg ht hk he hs h fun D C s' m H' I' q hn f => ⟨m, hn, fun h'' sb => ?_⟩
  obtain ⟨f0, f1, f2, f3, f4, f5⟩ := f
  exact ⟨.ref D, H', I'.turned (t' := s'.toks) (fun b o hb e => (sb.2 b hb).trans e) f0 f1 f3 f4 f5, rfl, q⟩
theorem sw_dict {kx vx : Expr} {gs : List Comprehension} {scope : Scope} {pos py : Pos} {y : Str} {l : Nat} {env : Env} (hk : env.scope.kind = .function) (hy : env.scope.names.lookup y = some .local) (hl : (py.line == pos.line) = true)
    (ha : (scope.names.any fun (n, k) => n == y && (k == .local || k == .cell)) = false) : swapsWith (.DictComp kx vx gs scope pos) (some (.Name y py)) l env = pure true := by
  have k1 : env.kindOf y = some .local := hy
  have k2 : env.blockKind = .function := by
    unfold Env.blockKind
    rw [hk]
    rfl
  unfold swapsWith
  simp only [k1, k2, ha, Expr.pos, hl]
  rfl
theorem ps_setDcT {X : Cx} {i : Nat} {y : Str} {py : Pos} {kx vx tg iter : Expr} {ifs : List Expr} {scope : Scope} {own : List (Str × Nat)} {pos spos : Pos} {wi : TI} {g : TG} {tt : TT} {tk tv : TE} (hu : X.A.units < cLine) (hc : X.calm = true) (hN : X.N.Nodup) (hy : X.N[i]? = some y) (hyl : X.env.scope.names.lookup y = some .local)
    (hsw : swapsWith (.DictComp kx vx [⟨tg, iter, ifs, 0⟩] scope pos) (some (.Name y py)) spos.line X.env = pure true) (hi : PI X tg iter wi) (ok : BlkOk X.N X.env.scope scope own)
    (hg : ∀ (s : Shared) (H : Hp) (C : Addr) (cl : List (Str × Addr)) (fp : List Addr), PG (X.blk s H scope (compEnvC scope cl C X.env) fp) tg g) (ht : ∀ (s : Shared) (H : Hp) (C : Addr) (cl : List (Str × Addr)) (fp : List Addr), PTs (X.blk s H scope (compEnvC scope cl C X.env) fp) ifs tt)
    (hk : ∀ (s : Shared) (H : Hp) (C : Addr) (cl : List (Str × Addr)) (fp : List Addr), PE (X.blk s H scope (compEnvC scope cl C X.env) fp) kx tk)
    (he : ∀ (s : Shared) (H : Hp) (C : Addr) (cl : List (Str × Addr)) (fp : List Addr), PE (X.blk s H scope (compEnvC scope cl C X.env) fp) vx tv) (hs : ∀ x, foldedSetIterable iter X.env x = pure x := by intro _; rfl) :
    PS X (.Assign [.Name y py] (.DictComp kx vx [⟨tg, iter, ifs, 0⟩] scope pos) spos) (tAsg (tDcT wi g tt tk tv (own.map (·.2))) (gName i)) := by
  refine ⟨fun pins s σ H D I h => ?_⟩
  rw [exec_Assign_Name_used _ _ _ _ hsw]
  refine wpAny_bind (wpAny_standAt (wpAny_bind ?_))
  show wpAny _ X.A (do let _ ← comprehension (.DictComp kx vx [⟨tg, iter, ifs, 0⟩] scope pos) scope X.env (firstIterPos [⟨tg, iter, ifs, 0⟩] pos) newDict false (eval iter X.env) (some (assign (.Name y py) X.env))) _ _ s
  have h2 : tDcT wi g tt tk tv (own.map (·.2)) σ H (fun x H1 => gName i x σ H1 D.nx) := h
  refine wpAny_bind (thn (dcT_core (Qf := fun _ s' => SP X pins D .next s') hu hc hN I hi ok hg ht hk he hs h2 fun L C s' m H' I' q hn f => ?_) fun _ s' hq => wpAny_pure (wpAny_pure hq))
  show wpAny _ _ (assign (.Name y py) X.env (.ref L)) _ _ _
  refine wpAny_assign_Name (store_ok2 (v := V.ref L) I' hN hy (.inl hyl) rfl (fun s2 I2 ⟨a, sb, ha⟩ => ?_) (.inr hyl))
  obtain ⟨f0, f1, f2, f3, f4, f5⟩ := f
  have haC : C ≠ a := ha.elim (fun z => by rw [z]; exact f1) fun z e => f4 y a z e.symm
  exact ⟨m, hn.sameBut sb haC, fun h3 sb3 => ⟨_, H', I2.turned (t' := s2.toks) (fun b o hb e => (sb3.2 b hb).trans e) f0 f1 f3 f4 f5, q⟩⟩
/-- a dict comprehension over a walk -/
theorem dcT_it {J : It} {n : Nat} {G : Hp → Prop} {Y : Nat → Hp → V → Hp → Prop} (wk : Walk J n G Y) {g : TG} {tt : TT} {tk tv : TE} {vs : List Nat} {σ : L2.St} {H1 : Hp} {D : Addr} {Qd : Hp → Prop} (Pv : Nat → Hp → Prop) (h0 : Pv 0 (upd H1 D (.dT []))) (hG : ∀ i H, i ≤ n → Pv i H → G H)
    (hs : ∀ i x H H', i < n → Pv i H → Y i H x H' → g x (wipe σ vs) H' fun σ2 H2 => wipe σ2 vs = wipe σ vs ∧ tt σ2 H2 fun b H3 =>
      if b = true then tk σ2 H3 fun y H4 => tv σ2 H4 fun z H5 => ∃ kvs k b, y = .ref b ∧ H5 b = some (.tup (k.map kV)) ∧ H5 D = some (.dT kvs) ∧ kvs.length < sizeLine ∧ Pv (i + 1) (upd H5 D (.dT (putK kvs k z))) else Pv (i + 1) H3) (hd : ∀ H, Pv n H → Qd H) :
    ∃ W : Nat → Nat → Hp → Prop, (∃ m, W 0 m (upd H1 D (.dT []))) ∧ ∀ i m H, W i m H →
      (J.stop i H ∧ Qd H) ∨ (J.go i H ∧ ∃ Nx : Hp → Prop, (∀ H', Nx H' → ∃ m', m' < m ∧ W (i + 1) m' H') ∧ ∀ x H', J.yld i H x H' → g x (wipe σ vs) H' fun σ2 H2 => wipe σ2 vs = wipe σ vs ∧ tt σ2 H2 fun b H3 =>
        if b = true then tk σ2 H3 fun y H4 => tv σ2 H4 fun z H5 => ∃ kvs k b, y = .ref b ∧ H5 b = some (.tup (k.map kV)) ∧ H5 D = some (.dT kvs) ∧ kvs.length < sizeLine ∧ Nx (upd H5 D (.dT (putK kvs k z))) else Nx H3) := by
  refine ⟨fun i m H => m = n - i ∧ i ≤ n ∧ Pv i H, ⟨n, by simp, Nat.zero_le _, h0⟩, ?_⟩
  rintro i m H ⟨rfl, hi, p⟩
  have q := hG i H hi p
  rcases Nat.lt_or_ge i n with hlt | hge
  · exact .inr ⟨wk.goes i H hlt q, Pv (i + 1), fun H' p' => ⟨n - (i + 1), by omega, rfl, hlt, p'⟩, fun x H' y => hs i x H H' hlt p (wk.yields i H x H' hlt q y)⟩
  · obtain rfl : i = n := by omega
    exact .inl ⟨wk.stops H q, hd H p⟩
end K31

set_option Elab.async false
set_option linter.all false
set_option maxRecDepth 100000
set_option maxHeartbeats 4000000
namespace K31
open PySem PySem.Spec PyProof.Rows L2
theorem cut1 (xs : List V) : cutV xs (some 1) none = xs.drop 1 := by
  unfold cutV
  rw [show HT.sIx xs.length 0 (some 1) = min 1 xs.length from HT.sIx_nat xs.length 0 1, HT.sIx_none]
  cases xs with
  | nil => rfl
  | cons x r =>
    rw [show min 1 (x :: r).length = 1 by
      rw [List.length_cons]
      omega]
    show (List.take ((x :: r).length - 1) r) = r
    rw [List.length_cons, Nat.add_sub_cancel]
    exact List.take_length
/-- each two neighbours of a list -/
def Nb {α : Type} (F : α → α → Prop) (l : List α) : Prop := ∀ (i : Nat) x y, l[i]? = some x → l[i + 1]? = some y → F x y
abbrev rPlace : Rp (List (Str × List Turn)) := rList (rPair rStr (rList rTurn))
abbrev Pl := List (Str × List Turn)
def IsTurns (ts : List Turn) : Prop := 1 ≤ ts.length ∧ ts.length ≤ 3 ∧ (∀ t ∈ ts, IsTurn t ∧ TOk 2600 t) ∧ Nb (fun x y => tLess y x = false) ts
def lessS (x y : Str) : Prop := x.cps.toList < y.cps.toList
def IsPl (p : Pl) : Prop := p.length ≤ 100 ∧ (∀ r ∈ p, IsName r.1 ∧ IsTurns r.2) ∧ Nb lessS (p.map Prod.fst)
theorem all_true : ∀ {bs : List Bool}, (∀ b ∈ bs, b = true) → bs.all id = true
  | [], _ => rfl
  | b :: bs, h => by
    rw [List.all_cons, h b List.mem_cons_self, all_true fun c hc => h c (List.mem_cons_of_mem _ hc)]
    rfl
theorem any_false : ∀ {bs : List Bool}, (∀ b ∈ bs, b = false) → bs.any id = false
  | [], _ => rfl
  | b :: bs, h => by
    rw [List.any_cons, h b List.mem_cons_self, any_false fun c hc => h c (List.mem_cons_of_mem _ hc)]
    rfl
theorem mem_fm {α : Type} {F : Nat → Option α} {n : Nat} {P : α → Prop} (h : ∀ i a, i < n → F i = some a → P a) : ∀ a ∈ (List.range n).filterMap F, P a := fun a ha => by
  obtain ⟨i, h1, h2⟩ := List.mem_filterMap.mp ha
  exact h i a (List.mem_range.mp h1) h2
theorem small100 {n : Nat} (h : n ≤ 100) : n ≤ sizeLine := Nat.le_trans h (by decide)
section
variable {P : Program} {w : World} {K : PySem.W.Frag} {mg : Str → Option Value} {base : Heap}
def sp_is_ascending : Sp := fun vs H Q _ => ∃ v zs, vs = [v] ∧ rList rStr H v zs ∧ zs.length ≤ 100 ∧ Nb lessS zs ∧ ∀ H', Same H H' → Q (.bl true) H'
theorem df_is_ascending (T : Txt K mg) : Df P w K mg base 1 "is_ascending" ["things"] sp_is_ascending := by
  refine Df.mk T.a_is_ascending sc_is_ascending (fun _ _ _ _ _ _ us hl => match us, hl with | [_], _ => rfl) (fun vs H Q E h => ?_) (fun f cdv A outer s H vs Q E hr h => ?_)
  · obtain ⟨_, _, rfl, _⟩ := h
    rfl
  · obtain ⟨_, zs, rfl, ⟨a, xs, rfl, ha, hp⟩, hn, hz, q⟩ := h
    refine ⟨_, (pss_one (ps_ret (pe_callB (cr_all rfl) (by rfl) T.z_all bt_all (pa_cons (pe_lc (own := [("part", 1), ("later", 2)]) (g := gTup K 2 (gCons (gName 1) (gCons (gName 2) gNil))) (tt := tYes) (by rfl) sc_is_ascending.nd (pi_zip (by rfl) T.z_zip (pa_cons (pv 0) (pa_cons (pe_slice sl_list (pv 0) (po_some pe_int) po_none) pa_nil))) (blkOk_by (own := [("part", 1), ("later", 2)]) (N := ["things", "part", "later"]) (sc := defScope s_is_ascending) (by decide +kernel)) (fun _ _ _ _ _ => (pg_tup rfl (pgs_cons (pg_name (i := 1) sc_is_ascending.nd rfl (.inl rfl)) (pgs_cons (pg_name (i := 2) sc_is_ascending.nd rfl (.inl rfl)) pgs_nil)))) (fun _ _ _ _ _ => pts_nil) (fun _ _ _ _ _ => (pe_cmpR op_lt_str (pv 1) (pv 2) (nomark _)))) pa_nil)))), ?_⟩
    have hl : xs.length = zs.length := PySem.Paired.length hp
    refine ⟨_, rfl, .ref a, rfl, 1, rfl, a, xs, rfl, SqL_of ha, fun c nc => ?_⟩
    have s1 : Same H (upd H c (.lst (cutV xs (some 1) none))) := same_upd nc
    refine ⟨a, c, xs, _, rfl, SqL_of (s1 _ _ ha), SqL_of upd_same, fun D hD => ?_⟩
    rw [cut1] at s1 hD
    rw [cut1]
    refine lc_fm (walk_zip (K := K) (a := a) (b := c) (xs := xs) (ys := xs.drop 1) rfl) rBl_tm (fun i => some true) (by have := small100 hn; omega) hD (fun H' s' => ⟨SqL_of (s' _ _ (s1 _ _ ha)), SqL_of (s' _ _ upd_same)⟩) (fun i x H2 H2' hi s2 hy Qe Ne hq hne => ?_) (fun H2 s2 hL => ?_)
    · obtain ⟨t, x1, x2, rfl, ht, rfl, h1, h2⟩ := hy
      obtain ⟨z1, hz1, rfl⟩ := Paired.get hp h1
      replace h2 : (xs.drop 1)[i]? = some x2 := h2
      rw [List.getElem?_drop] at h2
      obtain ⟨z2, hz2, rfl⟩ := Paired.get hp h2
      have hlt : z1.cps.toList < z2.cps.toList := hz i z1 z2 hz1 (by rw [Nat.add_comm]; exact hz2)
      refine ⟨t, _, rfl, SqT_of upd_same, rfl, _, _, rfl, _, _, rfl, rfl, rfl, yes_go ⟨_, rfl, _, rfl, _, _, rfl, rfl, ?_⟩⟩
      rw [decide_eq_true hlt]
      exact hq _ _ true (same_upd ht) rfl rfl
    · obtain ⟨p, ys, e1, hnp, hlp, hpp⟩ := hL
      cases e1
      have e2 := paired_bl (fun _ _ h => h) hpp
      subst e2
      refine ⟨D, _, rfl, SqL_of hlp, ?_⟩
      rw [all_true (mem_fm fun i b _ e => (Option.some.inj e).symm)]
      exact q _ (s1.trans s2)
def sp_are_turns : Sp := fun vs H Q _ => ∃ v ts, vs = [v] ∧ rList rTurn H v ts ∧ IsTurns ts ∧ ∀ H', Same H H' → Q (.bl true) H'
theorem df_are_turns_in_order (T : Txt K mg) : Df P w K mg base 5 "are_turns_in_order" ["thing"] sp_are_turns := by
  have D_is_turn := df_is_turn (P := P) (w := w) (base := base) T
  have D_is_less := df_is_less (P := P) (w := w) (base := base) T
  refine Df.mk T.a_are_turns_in_order sc_are_turns_in_order (fun _ _ _ _ _ _ us hl => match us, hl with | [_], _ => rfl) (fun vs H Q E h => ?_) (fun f cdv A outer s H vs Q E hr h => ?_)
  · obtain ⟨_, _, rfl, _⟩ := h
    rfl
  · obtain ⟨_, ts, rfl, ⟨a, xs, rfl, ha, hp⟩, ⟨h1, h3, ht, hnb⟩, q⟩ := h
    refine ⟨_, (pss_cons (ps_if (PW.pt (pw_or (pt_not (pt_val (pe_callB call_isi (by rfl) T.z_isinstance bt_isinstance (pa_cons (pv 0) (pa_cons (pe_bltn (v := .ty "list") (by rfl) T.z_list bt_list rfl) pa_nil))))) (pw_or (pt_not (pt_chain op_le op_le pe_int (pe_callB call_len_seq (by rfl) T.z_len bt_len (pa_cons (pv 0) pa_nil)) T.g_MOST_OF_A_NAME)) (pw_or1 (pt_not (pt_val (pe_callB (cr_all rfl) (by rfl) T.z_all bt_all (pa_cons (pe_lc (own := [("one", 1)]) (g := gName 1) (tt := tYes) (by rfl) sc_are_turns_in_order.nd (pi_listK (K := K) rfl (pv 0)) (blkOk_by (own := [("one", 1)]) (N := ["thing", "one", "later"]) (sc := defScope s_are_turns_in_order) (by decide +kernel)) (fun _ _ _ _ _ => (pg_name (i := 1) sc_are_turns_in_order.nd rfl (.inl rfl))) (fun _ _ _ _ _ => pts_nil) (fun _ _ _ _ _ => (pe_df D_is_turn hr (by decide) (by rfl) (pa_cons (pv 1) pa_nil)))) pa_nil)))))))) (pss_one (ps_ret pe_bl)) pss_nil)
  (pss_one (ps_ret (pe_not (pe_callB (cr_any rfl) (by rfl) T.z_any bt_any (pa_cons (pe_lc (own := [("one", 1), ("later", 2)]) (g := gTup K 2 (gCons (gName 1) (gCons (gName 2) gNil))) (tt := tYes) (by rfl) sc_are_turns_in_order.nd (pi_zip (by rfl) T.z_zip (pa_cons (pv 0) (pa_cons (pe_slice sl_list (pv 0) (po_some pe_int) po_none) pa_nil))) (blkOk_by (own := [("one", 1), ("later", 2)]) (N := ["thing", "one", "later"]) (sc := defScope s_are_turns_in_order) (by decide +kernel)) (fun _ _ _ _ _ => (pg_tup rfl (pgs_cons (pg_name (i := 1) sc_are_turns_in_order.nd rfl (.inl rfl)) (pgs_cons (pg_name (i := 2) sc_are_turns_in_order.nd rfl (.inl rfl)) pgs_nil)))) (fun _ _ _ _ _ => pts_nil) (fun _ _ _ _ _ => (pe_df D_is_less hr (by decide) (by rfl) (pa_cons (pv 2) (pa_cons (pv 1) pa_nil))))) pa_nil)))))), ?_⟩
    have hl : xs.length = ts.length := PySem.Paired.length hp
    have hzl : xs.length ≤ sizeLine := small3 (by omega)
    refine ⟨_, rfl, _, _, _, _, true, rfl, .ty _, .base (.lst ha), kitT (by decide +kernel), true, rfl, iteF ?_⟩
    refine ⟨_, rfl, a, xs, rfl, .inl (SqL_of ha), _, _, rfl, rfl, true, congrArg V.bl (decide_eq_true (by omega)), iteT ⟨_, _, rfl, rfl, true, congrArg V.bl (decide_eq_true (by omega)), iteF ?_⟩⟩
    refine ⟨_, rfl, a, rfl, ⟨xs, SqL_of ha⟩, fun D hD => lc_fm (walk_list (K := K) (a := a) (xs := xs)) rBl_tm (fun i => some true) hzl hD (fun H' s' => SqL_of (s' _ _ ha)) (fun i x H1 H1' hi s1 hy Qe Ne hq hne => ?_) (fun H1 s1 hL => ?_)⟩
    · obtain ⟨rfl, hx⟩ := hy
      obtain ⟨t, ht1, r1⟩ := Paired.get hp hx
      exact ⟨rfl, yes_go ⟨_, rfl, _, t, rfl, rTurn_mono.go s1 r1, (ht t (List.mem_of_getElem? ht1)).1, hq _ _ true (Same.refl _) rfl rfl⟩⟩
    · obtain ⟨p, ys, e1, hnp, hlp, hpp⟩ := hL
      cases e1
      have e2 := paired_bl (fun _ _ h => h) hpp
      subst e2
      refine ⟨D, _, rfl, SqL_of hlp, true, ?_, iteF ?_⟩
      · rw [all_true (mem_fm fun i b _ e => (Option.some.inj e).symm)]
      have ha1 := s1 _ _ ha
      refine ⟨_, rfl, .ref a, rfl, 1, rfl, a, xs, rfl, SqL_of ha1, fun c nc => ?_⟩
      have s2 : Same H1 (upd H1 c (.lst (cutV xs (some 1) none))) := same_upd nc
      refine ⟨a, c, xs, _, rfl, SqL_of (s2 _ _ ha1), SqL_of upd_same, fun D2 hD2 => ?_⟩
      rw [cut1] at s2 hD2
      rw [cut1]
      refine lc_fm (walk_zip (K := K) (a := a) (b := c) (xs := xs) (ys := xs.drop 1) rfl) rBl_tm (fun i => some false) (by omega) hD2 (fun H' s' => ⟨SqL_of (s' _ _ (s2 _ _ ha1)), SqL_of (s' _ _ upd_same)⟩) (fun i x H2 H2' hi s3 hy Qe Ne hq hne => ?_) (fun H2 s3 hL => ?_)
      · obtain ⟨t, x1, x2, rfl, ht0, rfl, g1, g2⟩ := hy
        obtain ⟨z1, hz1, r1⟩ := Paired.get hp g1
        replace g2 : (xs.drop 1)[i]? = some x2 := g2
        rw [List.getElem?_drop] at g2
        obtain ⟨z2, hz2, r2⟩ := Paired.get hp g2
        have hlt : tLess z2 z1 = false := hnb i z1 z2 hz1 (by rw [Nat.add_comm]; exact hz2)
        have s4 := (s1.trans (s2.trans s3)).trans (same_upd (o := .tup [x1, x2]) ht0)
        refine ⟨t, _, rfl, SqT_of upd_same, rfl, _, _, rfl, _, _, rfl, rfl, rfl, yes_go ⟨_, rfl, _, rfl, _, _, z2, z1, rfl, rTurn_mono.go s4 r2, rTurn_mono.go s4 r1, (ht _ (List.mem_of_getElem? hz2)).2.mono (by decide), (ht _ (List.mem_of_getElem? hz1)).2.mono (by decide), ?_⟩⟩
        rw [hlt]
        exact hq _ _ false (same_upd ht0) rfl rfl
      · obtain ⟨p, ys, e1, hnp, hlp, hpp⟩ := hL
        cases e1
        have e2 := paired_bl (fun _ _ h => h) hpp
        subst e2
        refine ⟨D2, _, rfl, SqL_of hlp, _, rfl, ?_⟩
        rw [any_false (mem_fm fun i b _ e => (Option.some.inj e).symm)]
        exact q _ (s1.trans (s2.trans s3))
def sp_is_place_row : Sp := fun vs H Q _ => ∃ v r, vs = [v] ∧ rPair rStr (rList rTurn) H v r ∧ IsName r.1 ∧ IsTurns r.2 ∧ ∀ H', Same H H' → Q (.bl true) H'
theorem df_is_place_row (T : Txt K mg) : Df P w K mg base 6 "is_place_row" ["thing"] sp_is_place_row := by
  have D_is_name := df_is_name (P := P) (w := w) (base := base) T
  have D_are_turns_in_order := df_are_turns_in_order (P := P) (w := w) (base := base) T
  refine Df.mk T.a_is_place_row sc_is_place_row (fun _ _ _ _ _ _ us hl => match us, hl with | [_], _ => rfl) (fun vs H Q E h => ?_) (fun f cdv A outer s H vs Q E hr h => ?_)
  · obtain ⟨_, _, rfl, _⟩ := h
    rfl
  · obtain ⟨_, r, rfl, ⟨p, x, y, rfl, hp, r1, r2⟩, h1, h2, q⟩ := h
    refine ⟨_, (pss_one (ps_ret (pe_and (pe_callB call_isi (by rfl) T.z_isinstance bt_isinstance (pa_cons (pv 0) (pa_cons (pe_bltn (v := .ty "tuple") (by rfl) T.z_tuple bt_tuple rfl) pa_nil))) (pe_and (pe_cmpR op_eq (pe_callB call_len_seq (by rfl) T.z_len bt_len (pa_cons (pv 0) pa_nil)) pe_int (nomark _)) (pe_and (pe_df D_is_name hr (by decide) (by rfl) (pa_cons (pe_ix (ix_tupK (K := K) rfl) (pv 0) pe_int (fun _ _ => rfl)) pa_nil)) (pe_one (pe_df D_are_turns_in_order hr (by decide) (by rfl) (pa_cons (pe_ix (ix_tupK (K := K) rfl) (pv 0) pe_int (fun _ _ => rfl)) pa_nil)))))))), ?_⟩
    obtain rfl : x = .str r.1 := r1
    refine ⟨_, rfl, _, _, _, _, true, rfl, .ty _, .base (.tup hp), kitT (by decide +kernel), true, rfl, iteT ?_⟩
    refine ⟨_, rfl, p, _, rfl, .inr (SqT_of hp), rfl, true, rfl, iteT ?_⟩
    refine ⟨_, rfl, _, _, _, _, rfl, rfl, SqT_of hp, i0, r.1, rfl, h1, true, rfl, iteT ?_⟩
    exact ⟨_, rfl, _, _, _, _, rfl, rfl, SqT_of hp, i1, _, r.2, rfl, r2, h2, q⟩
def sp_is_place_form : Sp := fun vs H Q _ => ∃ v p, vs = [v] ∧ rPlace H v p ∧ IsPl p ∧ ∀ H', Same H H' → Q (.bl true) H'
theorem df_is_place_form (T : Txt K mg) : Df P w K mg base 7 "is_place_form" ["thing"] sp_is_place_form := by
  have D_is_place_row := df_is_place_row (P := P) (w := w) (base := base) T
  have D_is_ascending := df_is_ascending (P := P) (w := w) (base := base) T
  refine Df.mk T.a_is_place_form sc_is_place_form (fun _ _ _ _ _ _ us hl => match us, hl with | [_], _ => rfl) (fun vs H Q E h => ?_) (fun f cdv A outer s H vs Q E hr h => ?_)
  · obtain ⟨_, _, rfl, _⟩ := h
    rfl
  · obtain ⟨_, pl, rfl, ⟨a, xs, rfl, ha, hp⟩, ⟨hn, hr1, hnb⟩, q⟩ := h
    refine ⟨_, (pss_cons (ps_if (PW.pt (pw_or (pt_not (pt_val (pe_callB call_isi (by rfl) T.z_isinstance bt_isinstance (pa_cons (pv 0) (pa_cons (pe_bltn (v := .ty "list") (by rfl) T.z_list bt_list rfl) pa_nil))))) (pw_or1 (pt_not (pt_val (pe_callB (cr_all rfl) (by rfl) T.z_all bt_all (pa_cons (pe_lc (own := [("row", 1)]) (g := gName 1) (tt := tYes) (by rfl) sc_is_place_form.nd (pi_listK (K := K) rfl (pv 0)) (blkOk_by (own := [("row", 1)]) (N := ["thing", "row"]) (sc := defScope s_is_place_form) (by decide +kernel)) (fun _ _ _ _ _ => (pg_name (i := 1) sc_is_place_form.nd rfl (.inl rfl))) (fun _ _ _ _ _ => pts_nil) (fun _ _ _ _ _ => (pe_df D_is_place_row hr (by decide) (by rfl) (pa_cons (pv 1) pa_nil)))) pa_nil))))))) (pss_one (ps_ret pe_bl)) pss_nil)
  (pss_one (ps_ret (pe_df D_is_ascending hr (by decide) (by rfl) (pa_cons (pe_lc (own := [("row", 1)]) (g := gName 1) (tt := tYes) (by rfl) sc_is_place_form.nd (pi_listK (K := K) rfl (pv 0)) (blkOk_by (own := [("row", 1)]) (N := ["thing", "row"]) (sc := defScope s_is_place_form) (by decide +kernel)) (fun _ _ _ _ _ => (pg_name (i := 1) sc_is_place_form.nd rfl (.inl rfl))) (fun _ _ _ _ _ => pts_nil) (fun _ _ _ _ _ => (pe_ix (ix_tupK (K := K) rfl) (pv 1) pe_int (fun _ _ => rfl)))) pa_nil))))), ?_⟩
    have hl : xs.length = pl.length := PySem.Paired.length hp
    have hzl : xs.length ≤ sizeLine := small100 (by omega)
    refine ⟨_, rfl, _, _, _, _, true, rfl, .ty _, .base (.lst ha), kitT (by decide +kernel), true, rfl, iteF ?_⟩
    refine ⟨_, rfl, a, rfl, ⟨xs, SqL_of ha⟩, fun D hD => lc_fm (walk_list (K := K) (a := a) (xs := xs)) rBl_tm (fun i => some true) hzl hD (fun H' s' => SqL_of (s' _ _ ha)) (fun i x H1 H1' hi s1 hy Qe Ne hq hne => ?_) (fun H1 s1 hL => ?_)⟩
    · obtain ⟨rfl, hx⟩ := hy
      obtain ⟨t, ht1, r1⟩ := Paired.get hp hx
      have hm := hr1 t (List.mem_of_getElem? ht1)
      exact ⟨rfl, yes_go ⟨_, rfl, _, t, rfl, (rPair_mono rStr_mono (rList_mono rTurn_mono)).go s1 r1, hm.1, hm.2, fun H2 s2 => hq _ _ true s2 rfl rfl⟩⟩
    · obtain ⟨p, ys, e1, hnp, hlp, hpp⟩ := hL
      cases e1
      have e2 := paired_bl (fun _ _ h => h) hpp
      subst e2
      refine ⟨D, _, rfl, SqL_of hlp, true, ?_, iteF ?_⟩
      · rw [all_true (mem_fm fun i b _ e => (Option.some.inj e).symm)]
      have ha1 := s1 _ _ ha
      refine ⟨_, rfl, a, rfl, ⟨xs, SqL_of ha1⟩, fun D hD => lc_fm (walk_list (K := K) (a := a) (xs := xs)) rStr_tm (fun i => pl[i]?.map Prod.fst) hzl hD (fun H' s' => SqL_of (s' _ _ ha1)) (fun i x H2 H2' hi s2 hy Qe Ne hq hne => ?_) (fun H2 s2 hL => ?_)⟩
      · obtain ⟨rfl, hx⟩ := hy
        obtain ⟨t, ht1, p, x, y, rfl, hp1, r1, r2⟩ := Paired.get hp hx
        exact ⟨rfl, yes_go ⟨_, rfl, _, _, _, _, rfl, rfl, SqT_of (s2 _ _ (s1 _ _ hp1)), i0, hq _ _ _ (Same.refl _) (by rw [ht1]; rfl) r1⟩⟩
      · rw [hl, fm_map] at hL
        exact ⟨_, _, rfl, hL.list, by rw [List.length_map]; exact hn, hnb, fun H3 s3 => q _ (s1.trans (s2.trans s3))⟩
def sp_check_place : Sp := fun vs H Q _ => ∃ v p, vs = [v] ∧ rPlace H v p ∧ IsPl p ∧ ∀ H', Same H H' → Q .non H'
theorem df_check_place (T : Txt K mg) : Df P w K mg base 8 "check_place" ["thing"] sp_check_place := by
  have D_is_place_form := df_is_place_form (P := P) (w := w) (base := base) T
  refine Df.mk T.a_check_place sc_check_place (fun _ _ _ _ _ _ us hl => match us, hl with | [_], _ => rfl) (fun vs H Q E h => ?_) (fun f cdv A outer s H vs Q E hr h => ?_)
  · obtain ⟨_, _, rfl, _⟩ := h
    rfl
  · obtain ⟨_, x, rfl, hp, hx, q⟩ := h
    refine ⟨_, (pss_one (ps_if (pt_not (pt_val (pe_df D_is_place_form hr (by decide) (by rfl) (pa_cons (pv 0) pa_nil)))) (pss_one ps_never) pss_nil)), ?_⟩
    exact ⟨_, rfl, _, x, rfl, hp, hx, fun H1 s1 => ⟨true, rfl, iteF (q _ s1)⟩⟩
end
end K31

set_option Elab.async false
set_option linter.all false
set_option maxRecDepth 100000
set_option maxHeartbeats 4000000
namespace K31
open PySem PySem.Spec PyProof.Rows L2
/-! ### places as they are made -/
inductive RowsAt (H0 H : Hp) : List V → Pl → List Addr → Prop
  | nil : RowsAt H0 H [] [] []
  | cons {t l : Addr} {ys : List V} {n : Str} {ts : List Turn} {xs : List V} {p : Pl} {ls : List Addr} : H t = some (.tup [.str n, .ref l]) → H0 l = none → H l = some (.lst ys) → Paired (rTurn H) ys ts → l ∉ ls → RowsAt H0 H xs p ls →
    RowsAt H0 H (.ref t :: xs) ((n, ts) :: p) (l :: ls)
theorem RowsAt.keep {H0 H H' : Hp} (s : TSame H H') : ∀ {xs : List V} {p : Pl} {ls : List Addr}, RowsAt H0 H xs p ls → (∀ l ∈ ls, ∀ ys, H l = some (.lst ys) → H' l = some (.lst ys)) → RowsAt H0 H' xs p ls
  | _, _, _, .nil, _ => .nil
  | _, _, _, .cons h1 h2 h3 h4 h5 h6, k => .cons (s _ _ h1) h2 (k _ List.mem_cons_self _ h3) (Paired.tm rTurn_tm s h4) h5 (RowsAt.keep s h6 fun l hl => k l (List.mem_cons_of_mem _ hl))
theorem RowsAt.snoc {H0 H : Hp} {t l : Addr} {ys : List V} {n : Str} {ts : List Turn} (h1 : H t = some (.tup [.str n, .ref l])) (h2 : H0 l = none) (h3 : H l = some (.lst ys)) (h4 : Paired (rTurn H) ys ts) :
    ∀ {xs : List V} {p : Pl} {ls : List Addr}, RowsAt H0 H xs p ls → l ∉ ls → RowsAt H0 H (xs ++ [.ref t]) (p ++ [(n, ts)]) (ls ++ [l])
  | _, _, _, .nil, _ => .cons h1 h2 h3 h4 (by simp) .nil
  | _, _, _, .cons g1 g2 g3 g4 g5 g6, k => .cons g1 g2 g3 g4 (fun hm => by
      rcases List.mem_append.mp hm with e | e
      · exact g5 e
      · exact k (by rw [List.mem_singleton.mp e]; exact List.mem_cons_self)) (RowsAt.snoc h1 h2 h3 h4 g6 fun hm => k (List.mem_cons_of_mem _ hm))
theorem RowsAt.there {H0 H : Hp} : ∀ {xs : List V} {p : Pl} {ls : List Addr}, RowsAt H0 H xs p ls → ∀ l ∈ ls, H0 l = none ∧ ∃ ys, H l = some (.lst ys)
  | _, _, _, .nil, l, h => by simp at h
  | _, _, _, .cons h1 h2 h3 h4 h5 h6, l, h => by
    rcases List.mem_cons.mp h with e | e
    · rw [e]
      exact ⟨h2, _, h3⟩
    · exact RowsAt.there h6 l e
theorem RowsAt.rows {H0 H : Hp} : ∀ {xs : List V} {p : Pl} {ls : List Addr}, RowsAt H0 H xs p ls → Paired (rPair rStr (rList rTurn) H) xs p
  | _, _, _, .nil => .nil
  | _, _, _, .cons h1 h2 h3 h4 h5 h6 => .cons ⟨_, _, _, rfl, h1, rfl, _, _, rfl, h3, h4⟩ (RowsAt.rows h6)
def NewPl (H0 H : Hp) (v : V) (p : Pl) : Prop := ∃ a xs ls, v = .ref a ∧ H0 a = none ∧ H a = some (.lst xs) ∧ RowsAt H0 H xs p ls ∧ a ∉ ls
theorem NewPl.place {H0 H : Hp} {v : V} {p : Pl} (h : NewPl H0 H v p) : rPlace H v p := by
  obtain ⟨a, xs, ls, e, _, h1, h2, _⟩ := h
  exact ⟨a, xs, e, h1, h2.rows⟩
theorem rPlace_mono : Mono rPlace := rList_mono (rPair_mono rStr_mono (rList_mono rTurn_mono))
/-- the scope of a comprehension that a def hands back -/
def scopeRet (st : Stmt) : Scope := match defBody st with
  | [.Return (some (.ListComp _ _ sc _)) _] => sc
  | _ => { kind := .function, names := [], isGenerator := false, isCoroutine := false }
def turnedIn (p : Pl) (r : Turn) : Pl := p.map fun x => (x.1, inOrder (x.2.map fun t => turnSum t r))
def mirroredIn (p : Pl) (r : Turn) : Pl := p.map fun x => (x.1, inOrder (x.2.map fun t => turnDiff r t))
def PlB (k : Nat) (p : Pl) : Prop := p.length ≤ 100 ∧ ∀ x ∈ p, x.2.length ≤ 3 ∧ ∀ t ∈ x.2, TOk k t
theorem take_map_succ {α β : Type} {f : α → β} {l : List α} {i : Nat} {a : α} (h : l[i]? = some a) : (l.take (i + 1)).map f = (l.take i).map f ++ [f a] := by
  rw [List.take_add_one, h]
  simp
section
variable {P : Program} {w : World} {K : PySem.W.Frag} {mg : Str → Option Value} {base : Heap}
def sp_pt (f : Pl → Turn → Pl) : Sp := fun vs H Q _ => ∃ v1 v2 p r, vs = [v1, v2] ∧ rPlace H v1 p ∧ rTurn H v2 r ∧ PlB 1200 p ∧ TOk 1200 r ∧ ∀ H' v, Same H H' → NewPl H H' v (f p r) → Q v H'
theorem df_turned_in (T : Txt K mg) : Df P w K mg base 5 "turned_in" ["place", "turn"] (sp_pt turnedIn) := by
  have D_in_order := df_in_order (P := P) (w := w) (base := base) T
  have D_turn_sum := df_turn_sum (P := P) (w := w) (base := base) T
  refine Df.mk T.a_turned_in sc_turned_in (fun _ _ _ _ _ _ us hl => match us, hl with | [_, _], _ => rfl) (fun vs H Q E h => ?_) (fun f cdv A outer s H vs Q E hr h => ?_)
  · obtain ⟨_, _, _, _, rfl, _⟩ := h
    rfl
  · obtain ⟨_, v2, pl, r, rfl, ⟨a, xs, rfl, ha, hp⟩, hr2, ⟨hn, hb⟩, br, q⟩ := h
    refine ⟨_, (pss_one (ps_ret (pe_lc (own := [("name", 2), ("turns", 3)]) (g := gTup K 2 (gCons (gName 2) (gCons (gName 3) gNil))) (tt := tYes) (by rfl) sc_turned_in.nd (pi_listK (K := K) rfl (pv 0)) (blkOk_by (own := [("name", 2), ("turns", 3)]) (N := ["place", "turn", "name", "turns", "one"]) (sc := defScope s_turned_in) (by decide +kernel)) (fun _ _ _ _ _ => (pg_tup rfl (pgs_cons (pg_name (i := 2) sc_turned_in.nd rfl (.inl rfl)) (pgs_cons (pg_name (i := 3) sc_turned_in.nd rfl (.inl rfl)) pgs_nil)))) (fun _ _ _ _ _ => pts_nil) (fun _ _ _ _ _ => (pe_tup (pa_cons (pv 2) (pa_cons (pe_df D_in_order hr (by decide) (by rfl) (pa_cons (pe_lc (own := [("one", 4)]) (g := gName 4) (tt := tYes) (by rfl) sc_turned_in.nd (pi_listK (K := K) rfl (pv 3)) (blkOk_by (own := [("one", 4)]) (N := ["place", "turn", "name", "turns", "one"]) (sc := relS (scopeRet s_turned_in) (defScope s_turned_in)) (by decide +kernel)) (fun _ _ _ _ _ => (pg_name (i := 4) sc_turned_in.nd rfl (.inl rfl))) (fun _ _ _ _ _ => pts_nil) (fun _ _ _ _ _ => (pe_df D_turn_sum hr (by decide) (by rfl) (pa_cons (pv 4) (pa_cons (pv 1) pa_nil))))) pa_nil)) pa_nil))))))), ?_⟩
    have hl : xs.length = pl.length := PySem.Paired.length hp
    have hz : xs.length ≤ sizeLine := small100 (by omega)
    refine ⟨_, rfl, a, rfl, ⟨xs, SqL_of ha⟩, fun D hD => lc_it (walk_list (K := K) (a := a) (xs := xs))
      (fun i H' => Same H H' ∧ ∃ zs ls, H' D = some (.lst zs) ∧ zs.length = i ∧ RowsAt H H' zs ((pl.take i).map fun x => (x.1, inOrder (x.2.map fun t => turnSum t r))) ls ∧ D ∉ ls) ?_ (fun i H' _ h => SqL_of (h.1 _ _ ha)) (fun i x H1 H1' hi h hy => ?_) (fun H1 h => ?_)⟩
    · exact ⟨same_upd hD, [], [], upd_same, rfl, .nil, by simp⟩
    · obtain ⟨s1, zs, ls, hzs, hlz, hrow, hDl⟩ := h
      obtain ⟨rfl, hx⟩ := hy
      obtain ⟨row, hrw, p, x1, x2, rfl, hp1, r1, b, ws, rfl, hbl, hpw⟩ := Paired.get hp hx
      obtain rfl : x1 = .str row.1 := r1
      have hm := hb row (List.mem_of_getElem? hrw)
      have hlw : ws.length = row.2.length := PySem.Paired.length hpw
      have hb1 := s1 _ _ hbl
      refine ⟨p, _, rfl, SqT_of (s1 _ _ hp1), rfl, _, _, rfl, _, _, rfl, rfl, rfl, yes_go ⟨_, rfl, _, rfl, b, rfl, ⟨ws, SqL_of hb1⟩, fun D2 hD2 => lc_fm (walk_list (K := K) (a := b) (xs := ws)) rTurn_tm (fun j => row.2[j]?.map fun t => turnSum t r) (small3 (by omega)) hD2 (fun H' s' => SqL_of (s' _ _ hb1)) (fun j x H2 H2' hj s2 hy2 Qe Ne hq hne => ?_) (fun H2 s2 hL => ?_)⟩⟩
      · obtain ⟨rfl, hx2⟩ := hy2
        obtain ⟨t, ht1, rt⟩ := Paired.get hpw hx2
        have bt := hm.2 t (List.mem_of_getElem? ht1)
        have rt2 := rTurn_mono.go (s1.trans s2) rt
        have rr2 := rTurn_mono.go (s1.trans s2) hr2
        refine ⟨rfl, yes_go ⟨_, rfl, _, rfl, _, _, _, _, rfl, rt2, rr2, bt.mono (by decide), br.mono (by decide), fun H3 v3 s3 r3 => hq _ _ _ s3 (by rw [ht1]; rfl) r3⟩⟩
      · rw [hlw, fm_map] at hL
        refine ⟨_, _, rfl, hL.list, by rw [List.length_map]; exact hm.1, fun t ht => ?_, fun H3 v3 s3 hN => ?_⟩
        · obtain ⟨t0, h0, rfl⟩ := List.mem_map.mp ht
          exact (turnSum_ok (hm.2 t0 h0) br).mono (by decide)
        · obtain ⟨l, ys, rfl, hln, hll, hpy⟩ := hN
          refine ⟨by show 2 ≤ sizeLine; decide, fun c nc => ?_⟩
          have s13 : Same H1' H3 := s2.trans s3
          have sc := same_upd (o := .tup [.str row.1, .ref l]) nc
          have hD3 : upd H3 c (.tup [.str row.1, .ref l]) D = some (.lst zs) := sc _ _ (s13 _ _ hzs)
          refine ⟨zs, hD3, ?_, ?_⟩
          · have := small100 hn
            omega
          have tsD : TSame (upd H3 c (.tup [.str row.1, .ref l])) (upd (upd H3 c (.tup [.str row.1, .ref l])) D (.lst (zs ++ [.ref c]))) := .lst hD3
          have hlD : l ≠ D := ne_of_none (s2 _ _ hzs) hln |>.symm
          have hcD : c ≠ D := (ne_of_none (s13 _ _ hzs) nc).symm
          have hlc : l ≠ c := ne_of_none hll nc
          refine ⟨Same.put hD ((s1.trans s13).trans sc), zs ++ [.ref c], ls ++ [l], upd_same, by rw [List.length_append, hlz]; rfl, ?_, ?_⟩
          · rw [take_map_succ hrw]
            refine RowsAt.snoc (t := c) (l := l) (ys := ys) ?_ ((s1.trans s2).free hln) ?_ ?_ ?_ ?_
            · rw [upd_ne hcD, upd_same]
            · rw [upd_ne hlD, upd_ne hlc]
              exact hll
            · exact Paired.tm rTurn_tm ((TSame.of sc).trans tsD) hpy
            · refine RowsAt.keep ((TSame.of (s13.trans sc)).trans tsD) hrow fun k hk ys' hys => ?_
              rw [upd_ne (fun z => hDl (by rw [← z]; exact hk))]
              exact sc _ _ (s13 _ _ hys)
            · intro hk
              obtain ⟨_, ys', hys⟩ := hrow.there l hk
              rw [(s2 _ _ hys)] at hln
              cases hln
          · intro hk
            rcases List.mem_append.mp hk with e | e
            · exact hDl e
            · exact hlD (List.mem_singleton.mp e).symm
    · obtain ⟨s1, zs, ls, hzs, hlz, hrow, hDl⟩ := h
      rw [hl, List.take_length] at hrow
      exact q _ _ s1 ⟨D, zs, ls, rfl, hD, hzs, hrow, hDl⟩
theorem df_mirrored_in (T : Txt K mg) : Df P w K mg base 5 "mirrored_in" ["place", "turn"] (sp_pt mirroredIn) := by
  have D_in_order := df_in_order (P := P) (w := w) (base := base) T
  have D_turn_difference := df_turn_difference (P := P) (w := w) (base := base) T
  refine Df.mk T.a_mirrored_in sc_mirrored_in (fun _ _ _ _ _ _ us hl => match us, hl with | [_, _], _ => rfl) (fun vs H Q E h => ?_) (fun f cdv A outer s H vs Q E hr h => ?_)
  · obtain ⟨_, _, _, _, rfl, _⟩ := h
    rfl
  · obtain ⟨_, v2, pl, r, rfl, ⟨a, xs, rfl, ha, hp⟩, hr2, ⟨hn, hb⟩, br, q⟩ := h
    refine ⟨_, (pss_one (ps_ret (pe_lc (own := [("name", 2), ("turns", 3)]) (g := gTup K 2 (gCons (gName 2) (gCons (gName 3) gNil))) (tt := tYes) (by rfl) sc_mirrored_in.nd (pi_listK (K := K) rfl (pv 0)) (blkOk_by (own := [("name", 2), ("turns", 3)]) (N := ["place", "turn", "name", "turns", "one"]) (sc := defScope s_mirrored_in) (by decide +kernel)) (fun _ _ _ _ _ => (pg_tup rfl (pgs_cons (pg_name (i := 2) sc_mirrored_in.nd rfl (.inl rfl)) (pgs_cons (pg_name (i := 3) sc_mirrored_in.nd rfl (.inl rfl)) pgs_nil)))) (fun _ _ _ _ _ => pts_nil) (fun _ _ _ _ _ => (pe_tup (pa_cons (pv 2) (pa_cons (pe_df D_in_order hr (by decide) (by rfl) (pa_cons (pe_lc (own := [("one", 4)]) (g := gName 4) (tt := tYes) (by rfl) sc_mirrored_in.nd (pi_listK (K := K) rfl (pv 3)) (blkOk_by (own := [("one", 4)]) (N := ["place", "turn", "name", "turns", "one"]) (sc := relS (scopeRet s_mirrored_in) (defScope s_mirrored_in)) (by decide +kernel)) (fun _ _ _ _ _ => (pg_name (i := 4) sc_mirrored_in.nd rfl (.inl rfl))) (fun _ _ _ _ _ => pts_nil) (fun _ _ _ _ _ => (pe_df D_turn_difference hr (by decide) (by rfl) (pa_cons (pv 1) (pa_cons (pv 4) pa_nil))))) pa_nil)) pa_nil))))))), ?_⟩
    have hl : xs.length = pl.length := PySem.Paired.length hp
    have hz : xs.length ≤ sizeLine := small100 (by omega)
    refine ⟨_, rfl, a, rfl, ⟨xs, SqL_of ha⟩, fun D hD => lc_it (walk_list (K := K) (a := a) (xs := xs))
      (fun i H' => Same H H' ∧ ∃ zs ls, H' D = some (.lst zs) ∧ zs.length = i ∧ RowsAt H H' zs ((pl.take i).map fun x => (x.1, inOrder (x.2.map fun t => turnDiff r t))) ls ∧ D ∉ ls) ?_ (fun i H' _ h => SqL_of (h.1 _ _ ha)) (fun i x H1 H1' hi h hy => ?_) (fun H1 h => ?_)⟩
    · exact ⟨same_upd hD, [], [], upd_same, rfl, .nil, by simp⟩
    · obtain ⟨s1, zs, ls, hzs, hlz, hrow, hDl⟩ := h
      obtain ⟨rfl, hx⟩ := hy
      obtain ⟨row, hrw, p, x1, x2, rfl, hp1, r1, b, ws, rfl, hbl, hpw⟩ := Paired.get hp hx
      obtain rfl : x1 = .str row.1 := r1
      have hm := hb row (List.mem_of_getElem? hrw)
      have hlw : ws.length = row.2.length := PySem.Paired.length hpw
      have hb1 := s1 _ _ hbl
      refine ⟨p, _, rfl, SqT_of (s1 _ _ hp1), rfl, _, _, rfl, _, _, rfl, rfl, rfl, yes_go ⟨_, rfl, _, rfl, b, rfl, ⟨ws, SqL_of hb1⟩, fun D2 hD2 => lc_fm (walk_list (K := K) (a := b) (xs := ws)) rTurn_tm (fun j => row.2[j]?.map fun t => turnDiff r t) (small3 (by omega)) hD2 (fun H' s' => SqL_of (s' _ _ hb1)) (fun j x H2 H2' hj s2 hy2 Qe Ne hq hne => ?_) (fun H2 s2 hL => ?_)⟩⟩
      · obtain ⟨rfl, hx2⟩ := hy2
        obtain ⟨t, ht1, rt⟩ := Paired.get hpw hx2
        have bt := hm.2 t (List.mem_of_getElem? ht1)
        have rt2 := rTurn_mono.go (s1.trans s2) rt
        have rr2 := rTurn_mono.go (s1.trans s2) hr2
        refine ⟨rfl, yes_go ⟨_, rfl, _, rfl, _, _, _, _, rfl, rr2, rt2, br.mono (by decide), bt.mono (by decide), fun H3 v3 s3 r3 => hq _ _ _ s3 (by rw [ht1]; rfl) r3⟩⟩
      · rw [hlw, fm_map] at hL
        refine ⟨_, _, rfl, hL.list, by rw [List.length_map]; exact hm.1, fun t ht => ?_, fun H3 v3 s3 hN => ?_⟩
        · obtain ⟨t0, h0, rfl⟩ := List.mem_map.mp ht
          exact (turnDiff_ok br (hm.2 t0 h0)).mono (by decide)
        · obtain ⟨l, ys, rfl, hln, hll, hpy⟩ := hN
          refine ⟨by show 2 ≤ sizeLine; decide, fun c nc => ?_⟩
          have s13 : Same H1' H3 := s2.trans s3
          have sc := same_upd (o := .tup [.str row.1, .ref l]) nc
          have hD3 : upd H3 c (.tup [.str row.1, .ref l]) D = some (.lst zs) := sc _ _ (s13 _ _ hzs)
          refine ⟨zs, hD3, ?_, ?_⟩
          · have := small100 hn
            omega
          have tsD : TSame (upd H3 c (.tup [.str row.1, .ref l])) (upd (upd H3 c (.tup [.str row.1, .ref l])) D (.lst (zs ++ [.ref c]))) := .lst hD3
          have hlD : l ≠ D := ne_of_none (s2 _ _ hzs) hln |>.symm
          have hcD : c ≠ D := (ne_of_none (s13 _ _ hzs) nc).symm
          have hlc : l ≠ c := ne_of_none hll nc
          refine ⟨Same.put hD ((s1.trans s13).trans sc), zs ++ [.ref c], ls ++ [l], upd_same, by rw [List.length_append, hlz]; rfl, ?_, ?_⟩
          · rw [take_map_succ hrw]
            refine RowsAt.snoc (t := c) (l := l) (ys := ys) ?_ ((s1.trans s2).free hln) ?_ ?_ ?_ ?_
            · rw [upd_ne hcD, upd_same]
            · rw [upd_ne hlD, upd_ne hlc]
              exact hll
            · exact Paired.tm rTurn_tm ((TSame.of sc).trans tsD) hpy
            · refine RowsAt.keep ((TSame.of (s13.trans sc)).trans tsD) hrow fun k hk ys' hys => ?_
              rw [upd_ne (fun z => hDl (by rw [← z]; exact hk))]
              exact sc _ _ (s13 _ _ hys)
            · intro hk
              obtain ⟨_, ys', hys⟩ := hrow.there l hk
              rw [(s2 _ _ hys)] at hln
              cases hln
          · intro hk
            rcases List.mem_append.mp hk with e | e
            · exact hDl e
            · exact hlD (List.mem_singleton.mp e).symm
    · obtain ⟨s1, zs, ls, hzs, hlz, hrow, hDl⟩ := h
      rw [hl, List.take_length] at hrow
      exact q _ _ s1 ⟨D, zs, ls, rfl, hD, hzs, hrow, hDl⟩
end
end K31

set_option Elab.async false
set_option linter.all false
set_option maxRecDepth 100000
set_option maxHeartbeats 4000000
namespace K31
open PySem PySem.Spec PyProof.Rows L2
def partOf (t : Turn) : Int := 30 * t.1 / t.2
def clsOf (t : Turn) : Turn := fracDiff t (fracOf (partOf t) 30)
def turnIn (part : Int) (c : Turn) : Turn := fracSum (fracOf part 30) c
theorem bd30 : Bd 5 (30 : Int) := by
  unfold Bd
  decide
theorem partOf_bd {k : Nat} {t : Turn} (h : TOk k t) : Bd (5 + k) (partOf t) := (bd30.mul h.2.1).div h.1
theorem frac30_ok {k : Nat} {z : Int} (h : Bd (5 + k) z) : TOk (5 + k) (fracOf z 30) := fracOf_ok (by decide) h (bd30.mono (by omega))
theorem clsOf_ok {k : Nat} {t : Turn} (h : TOk k t) : TOk (5 + k + (5 + k) + 1) (clsOf t) := fracDiff_ok (h.mono (by omega)) (frac30_ok (partOf_bd h))
section
variable {P : Program} {w : World} {K : PySem.W.Frag} {mg : Str → Option Value} {base : Heap}
def sp_tu (f : Pl → Turn → Pl) : Sp := fun vs H Q _ => ∃ v1 v2 p r, vs = [v1, v2] ∧ rPlace H v1 p ∧ rTurn H v2 r ∧ IsPl p ∧ PlB 1200 p ∧ IsTurn r ∧ TOk 1200 r ∧ ∀ H' v, Same H H' → NewPl H H' v (f p r) → Q v H'
theorem NewPl.older {H0 H1 H : Hp} {v : V} {p : Pl} (s : Same H0 H1) (h : NewPl H1 H v p) : NewPl H0 H v p := by
  obtain ⟨a, xs, ls, e, h0, h1, h2, h3⟩ := h
  refine ⟨a, xs, ls, e, s.free h0, h1, ?_, h3⟩
  clear h1 h3
  induction h2 with
  | nil => exact .nil
  | cons g1 g2 g3 g4 g5 g6 ih => exact .cons g1 (s.free g2) g3 g4 g5 ih
/-- a def's promise, with its data -/
def Dg (P : Program) (w : World) (K : PySem.W.Frag) (mg : Str → Option Value) (base : Heap) (j : Nat) (x : Str) (st : Stmt) (ps : List Str) (sp : Sp) : Prop :=
  ∃ f fd, mg x = some (.ref f) ∧ FunD K x x (defArgs st) (defBody st) (defScope st) [] [] f fd ∧ FnOk P w K mg base CX0 j f fd ps sp
theorem Dg.mk {x : Str} {st : Stmt} {N ps : List Str} {k : Nat} {sp : Sp} (A : At K mg x st) (S : FnScope N ps (defScope st))
    (len : ∀ vs H Q E, sp vs H Q E → vs.length = ps.length)
    (body : ∀ (f : Addr) (cdv : Value) (A : Around) (outer : List Env) (s : Shared) (H : Hp) (vs : List V) (Q : VK) (E : XK), Room k (A.deeper (envOfC x (defScope st) s.heap.objs.size f cdv)) → sp vs H Q E →
      ∃ t, PSs (cxOf CX0 P w K mg base N x (defScope st) f cdv A outer s H E).nox (defBody st) t ∧ t { nx := fun _ H' => Q .non H', rt := Q } (start N vs) H) : Dg P w K mg base (k + 1) x st ps sp := by
  obtain ⟨f, fd, g, F⟩ := A.ex
  refine ⟨f, fd, g, F, F.ok S len fun cdv A outer s H vs Q E hr h => ?_⟩
  obtain ⟨t, h1, h2⟩ := body f cdv A outer s H vs Q E hr h
  exact ⟨t, h1.nox, h2⟩
theorem Dg.df {x : Str} {st : Stmt} {ps : List Str} {j : Nat} {sp : Sp} (D : Dg P w K mg base j x st ps sp)
    (hb : ∀ (kV doc pm : Value) (an : Option Addr) (cdv ct : Value) (us : List Value), us.length = ps.length → bindArgs (PySem.W.fnOf x x (defArgs st) (defBody st) (defScope st) .none kV doc pm an cdv ct) ⟨us, []⟩ = pure (ps.zip us)) : Df P w K mg base j x ps sp := by
  obtain ⟨f, fd, g, F, O⟩ := D
  exact ⟨f, fd, g, F.kp, F.bindsN hb, O⟩
theorem dg_turned (T : Txt K mg) : Dg P w K mg base 9 "turned" s_turned ["place", "turn"] (sp_tu turnedIn) := by
  have D_check_place := df_check_place (P := P) (w := w) (base := base) T
  have D_check_turn := df_check_turn (P := P) (w := w) (base := base) T
  have D_turned_in := df_turned_in (P := P) (w := w) (base := base) T
  refine Dg.mk T.a_turned sc_turned (fun vs H Q E h => ?_) (fun f cdv A outer s H vs Q E hr h => ?_)
  · obtain ⟨_, _, _, _, rfl, _⟩ := h
    rfl
  · obtain ⟨_, _, p, r, rfl, h1, h2, ip, bp, ir, br, q⟩ := h
    refine ⟨_, (pss_cons (ps_expr (pe_df D_check_place hr (by decide) (by rfl) (pa_cons (pv 0) pa_nil)))
  (pss_cons (ps_expr (pe_df D_check_turn hr (by decide) (by rfl) (pa_cons (pv 1) pa_nil)))
  (pss_one (ps_ret (pe_df D_turned_in hr (by decide) (by rfl) (pa_cons (pv 0) (pa_cons (pv 1) pa_nil))))))), ?_⟩
    refine ⟨_, rfl, _, p, rfl, h1, ip, fun H1 s1 => ?_⟩
    refine ⟨_, rfl, _, r, rfl, rTurn_mono.go s1 h2, ir, ?_⟩
    exact ⟨_, rfl, _, rfl, _, _, p, r, rfl, rPlace_mono.go s1 h1, rTurn_mono.go s1 h2, bp, br, fun H2 v s2 hN => q _ _ (s1.trans s2) (hN.older s1)⟩
theorem df_turned (T : Txt K mg) : Df P w K mg base 9 "turned" ["place", "turn"] (sp_tu turnedIn) := (dg_turned T).df (fun _ _ _ _ _ _ us hl => match us, hl with | [_, _], _ => rfl)
theorem dg_mirrored (T : Txt K mg) : Dg P w K mg base 9 "mirrored" s_mirrored ["place", "turn"] (sp_tu mirroredIn) := by
  have D_check_place := df_check_place (P := P) (w := w) (base := base) T
  have D_check_turn := df_check_turn (P := P) (w := w) (base := base) T
  have D_mirrored_in := df_mirrored_in (P := P) (w := w) (base := base) T
  refine Dg.mk T.a_mirrored sc_mirrored (fun vs H Q E h => ?_) (fun f cdv A outer s H vs Q E hr h => ?_)
  · obtain ⟨_, _, _, _, rfl, _⟩ := h
    rfl
  · obtain ⟨_, _, p, r, rfl, h1, h2, ip, bp, ir, br, q⟩ := h
    refine ⟨_, (pss_cons (ps_expr (pe_df D_check_place hr (by decide) (by rfl) (pa_cons (pv 0) pa_nil)))
  (pss_cons (ps_expr (pe_df D_check_turn hr (by decide) (by rfl) (pa_cons (pv 1) pa_nil)))
  (pss_one (ps_ret (pe_df D_mirrored_in hr (by decide) (by rfl) (pa_cons (pv 0) (pa_cons (pv 1) pa_nil))))))), ?_⟩
    refine ⟨_, rfl, _, p, rfl, h1, ip, fun H1 s1 => ?_⟩
    refine ⟨_, rfl, _, r, rfl, rTurn_mono.go s1 h2, ir, ?_⟩
    exact ⟨_, rfl, _, rfl, _, _, p, r, rfl, rPlace_mono.go s1 h1, rTurn_mono.go s1 h2, bp, br, fun H2 v s2 hN => q _ _ (s1.trans s2) (hN.older s1)⟩
theorem df_mirrored (T : Txt K mg) : Df P w K mg base 9 "mirrored" ["place", "turn"] (sp_tu mirroredIn) := (dg_mirrored T).df (fun _ _ _ _ _ _ us hl => match us, hl with | [_, _], _ => rfl)
def rPC : Rp (Int × Turn) := rPair rInt rTurn
def sp_part_in : Sp := fun vs H Q _ => ∃ v t, vs = [v] ∧ rTurn H v t ∧ TOk 600 t ∧ ∀ H' v', Same H H' → rPair rInt rTurn H' v' (partOf t, clsOf t) → Q v' H'
theorem df_part_in (T : Txt K mg) : Df P w K mg base 4 "part_in" ["turn"] sp_part_in := by
  have D_fraction_of := df_fraction_of (P := P) (w := w) (base := base) T
  have D_fraction_difference := df_fraction_difference (P := P) (w := w) (base := base) T
  refine Df.mk T.a_part_in sc_part_in (fun _ _ _ _ _ _ us hl => match us, hl with | [_], _ => rfl) (fun vs H Q E h => ?_) (fun f cdv A outer s H vs Q E hr h => ?_)
  · obtain ⟨_, _, rfl, _⟩ := h
    rfl
  · obtain ⟨_, t, rfl, ⟨p, rfl, hp⟩, ht, q⟩ := h
    refine ⟨_, (pss_cons (ps_set (i := 1) sc_part_in.nd rfl (.inl rfl) (pe_op op_fdivW (pe_op op_mulW T.g_PARTS (pe_ix (ix_tupK (K := K) rfl) (pv 0) pe_int (fun _ _ => rfl))) (pe_ix (ix_tupK (K := K) rfl) (pv 0) pe_int (fun _ _ => rfl))))
  (pss_one (ps_ret (pe_tup (pa_cons (pv 1) (pa_cons (pe_df D_fraction_difference hr (by decide) (by rfl) (pa_cons (pv 0) (pa_cons (pe_df D_fraction_of hr (by decide) (by rfl) (pa_cons (pv 1) (pa_cons T.g_PARTS pa_nil))) pa_nil))) pa_nil)))))), ?_⟩
    refine ⟨_, rfl, _, _, _, _, rfl, rfl, SqT_of hp, i0, _, _, rfl, rfl, bd30.mulOk ht.2.1, _, rfl, _, _, _, _, rfl, rfl, SqT_of hp, i1, _, _, rfl, rfl, ht.2.2.divOk ht.1, ?_⟩
    refine ⟨_, rfl, _, rfl, _, rfl, _, 30, rfl, by decide, (partOf_bd ht).mono (by decide), bd30.mono (by decide), fun H1 v1 s1 r1 => ?_⟩
    refine ⟨_, _, t, _, rfl, ⟨p, rfl, s1 _ _ hp⟩, r1, ht.mono (by decide), (frac30_ok (partOf_bd ht)).mono (by decide), fun H2 v2 s2 r2 => ?_⟩
    refine ⟨by show 2 ≤ sizeLine; decide, fun c nc => q _ _ ((s1.trans s2).trans (same_upd nc)) ⟨c, _, _, rfl, upd_same, rfl, ?_⟩⟩
    exact rTurn_mono.go (same_upd nc) r2
def sp_turn_in : Sp := fun vs H Q _ => ∃ v z c, vs = [.int z, v] ∧ rTurn H v c ∧ Bd 20 z ∧ TOk 1500 c ∧ ∀ H' v', Same H H' → rTurn H' v' (turnIn z c) → Q v' H'
theorem df_turn_in (T : Txt K mg) : Df P w K mg base 4 "turn_in" ["part", "turn_class"] sp_turn_in := by
  have D_fraction_of := df_fraction_of (P := P) (w := w) (base := base) T
  have D_fraction_sum := df_fraction_sum (P := P) (w := w) (base := base) T
  refine Df.mk T.a_turn_in sc_turn_in (fun _ _ _ _ _ _ us hl => match us, hl with | [_, _], _ => rfl) (fun vs H Q E h => ?_) (fun f cdv A outer s H vs Q E hr h => ?_)
  · obtain ⟨_, _, _, rfl, _⟩ := h
    rfl
  · obtain ⟨_, z, c, rfl, hp, hz, hc, q⟩ := h
    refine ⟨_, (pss_one (ps_ret (pe_df D_fraction_sum hr (by decide) (by rfl) (pa_cons (pe_df D_fraction_of hr (by decide) (by rfl) (pa_cons (pv 0) (pa_cons T.g_PARTS pa_nil))) (pa_cons (pv 1) pa_nil))))), ?_⟩
    refine ⟨_, rfl, _, 30, rfl, by decide, hz.mono (by decide), bd30.mono (by decide), fun H1 v1 s1 r1 => ?_⟩
    exact ⟨_, rfl, _, _, _, c, rfl, r1, rTurn_mono.go s1 hp, fracOf_ok (by decide) (hz.mono (by decide)) (bd30.mono (by decide)), hc.mono (by decide), fun H2 v2 s2 r2 => q _ _ (s1.trans s2) r2⟩
end
end K31

set_option Elab.async false
set_option linter.all false
set_option maxRecDepth 100000
set_option maxHeartbeats 4000000
namespace K31
open PySem PySem.Spec PyProof.Rows L2
/-! ### dicts as lists of pairs -/
def tk (t : Turn) : List Key := [.inl t.1, .inl t.2]
theorem tk_inj {a b : Turn} (h : tk a = tk b) : a = b := by
  unfold tk at h
  simp only [List.cons.injEq, Sum.inl.injEq, and_true] at h
  exact Prod.ext h.1 h.2
def aGet {α : Type} (d : List (Turn × α)) (t : Turn) : Option α := (d.find? fun p => decide (p.1 = t)).map (·.2)
def aPut {α : Type} (d : List (Turn × α)) (t : Turn) (v : α) : List (Turn × α) :=
  if (d.any fun p => decide (p.1 = t)) = true then d.map (fun p => if p.1 = t then (p.1, v) else p) else d ++ [(t, v)]
/-- the dict's own pairs, the values told by e -/
def enc {α : Type} (e : α → V) (d : List (Turn × α)) : List (List Key × V) := d.map fun p => (tk p.1, e p.2)
theorem dec_tk (a b : Turn) : decide (tk a = tk b) = decide (a = b) := by
  by_cases h : a = b
  · simp [h]
  · rw [decide_eq_false h, decide_eq_false fun z => h (tk_inj z)]
theorem val_enc {α : Type} (e : α → V) : ∀ (d : List (Turn × α)) (t : Turn), valV (enc e d) (tk t) = (aGet d t).map e
  | [], _ => rfl
  | p :: d, t => by
    have ih := val_enc e d t
    unfold valV aGet enc at *
    rw [List.map_cons, List.find?_cons, List.find?_cons]
    dsimp only
    rw [dec_tk]
    by_cases h : p.1 = t
    · rw [decide_eq_true h]
      rfl
    · rw [decide_eq_false h]
      exact ih
theorem any_enc {α : Type} (e : α → V) (t : Turn) : ∀ d : List (Turn × α), ((enc e d).any fun kv => decide (kv.1 = tk t)) = d.any fun p => decide (p.1 = t)
  | [] => rfl
  | p :: d => by
    show (decide (tk p.1 = tk t) || (enc e d).any _) = (decide (p.1 = t) || d.any _)
    rw [any_enc e t d, dec_tk]
theorem map_enc {α : Type} (e : α → V) (t : Turn) (v : α) : ∀ d : List (Turn × α), (enc e d).map (fun kv => if kv.1 = tk t then (kv.1, e v) else kv) = enc e (d.map fun p => if p.1 = t then (p.1, v) else p)
  | [] => rfl
  | p :: d => by
    show (if tk p.1 = tk t then (tk p.1, e v) else (tk p.1, e p.2)) :: _ = (tk (if p.1 = t then (p.1, v) else p).1, e (if p.1 = t then (p.1, v) else p).2) :: _
    have ih := map_enc e t v d
    unfold enc at ih
    rw [ih]
    by_cases h : p.1 = t
    · rw [if_pos h, if_pos (by rw [h])]
    · rw [if_neg h, if_neg fun z => h (tk_inj z)]
theorem put_enc {α : Type} (e : α → V) (d : List (Turn × α)) (t : Turn) (v : α) : putK (enc e d) (tk t) (e v) = enc e (aPut d t v) := by
  unfold putK aPut
  rw [any_enc]
  split
  · exact map_enc e t v d
  · unfold enc
    rw [List.map_append]
    rfl
theorem len_aPut {α : Type} (d : List (Turn × α)) (t : Turn) (v : α) : (aPut d t v).length ≤ d.length + 1 := by
  unfold aPut
  split
  · rw [List.length_map]
    omega
  · rw [List.length_append]
    simp
/-- a key that is new goes behind -/
theorem aPut_new {α : Type} {d : List (Turn × α)} {t : Turn} (v : α) (h : t ∉ d.map Prod.fst) : aPut d t v = d ++ [(t, v)] := by
  unfold aPut
  rw [if_neg]
  intro z
  obtain ⟨p, h1, h2⟩ := List.any_eq_true.mp z
  exact h (by rw [← of_decide_eq_true h2]; exact List.mem_map_of_mem h1)
theorem keys_aPut {α : Type} (d : List (Turn × α)) (t : Turn) (v : α) : (aPut d t v).map Prod.fst = if t ∈ d.map Prod.fst then d.map Prod.fst else d.map Prod.fst ++ [t] := by
  unfold aPut
  by_cases h : t ∈ d.map Prod.fst
  · have h2 : (d.any fun p => decide (p.1 = t)) = true := by
      obtain ⟨p, h1, h3⟩ := List.mem_map.mp h
      exact List.any_eq_true.mpr ⟨p, h1, decide_eq_true h3⟩
    rw [if_pos h2, if_pos h, List.map_map]
    apply List.map_congr_left
    intro p _
    show (if p.1 = t then (p.1, v) else p).1 = p.1
    split <;> rfl
  · have h2 : ¬ (d.any fun p => decide (p.1 = t)) = true := fun z => by
      obtain ⟨p, h1, h3⟩ := List.any_eq_true.mp z
      exact h (by rw [← of_decide_eq_true h3]; exact List.mem_map_of_mem h1)
    rw [if_neg h2, if_neg h, List.map_append]
    rfl
theorem nodup_aPut {α : Type} {d : List (Turn × α)} (h : (d.map Prod.fst).Nodup) (t : Turn) (v : α) : ((aPut d t v).map Prod.fst).Nodup := by
  rw [keys_aPut]
  split
  · exact h
  · rename_i hn
    refine List.nodup_append.mpr ⟨h, by simp, fun a ha b hb => ?_⟩
    rw [List.mem_singleton.mp hb]
    intro e
    exact hn (by rw [← e]; exact ha)
theorem mem_keys_aPut {α : Type} {d : List (Turn × α)} {t s : Turn} {v : α} : s ∈ (aPut d t v).map Prod.fst ↔ s = t ∨ s ∈ d.map Prod.fst := by
  rw [keys_aPut]
  split
  · rename_i h
    exact ⟨.inr, fun z => z.elim (fun e => by rw [e]; exact h) id⟩
  · rw [List.mem_append, List.mem_singleton]
    exact ⟨fun z => z.elim .inr .inl, fun z => z.elim .inr .inl⟩
theorem aGet_aPut {α : Type} (d : List (Turn × α)) (t s : Turn) (v : α) : aGet (aPut d t v) s = if s = t then some v else aGet d s := by
  unfold aPut
  by_cases h : (d.any fun p => decide (p.1 = t)) = true
  · rw [if_pos h]
    induction d with
    | nil => simp at h
    | cons p d ih =>
      unfold aGet at ih ⊢
      rw [List.map_cons, List.find?_cons, List.find?_cons]
      by_cases hp : p.1 = t
      · rw [if_pos hp]
        dsimp only
        by_cases hs : s = t
        · rw [if_pos hs, decide_eq_true (by rw [hp, hs])]
          rfl
        · have h0 : ¬ p.1 = s := fun z => hs (by rw [← z, hp])
          rw [if_neg hs, decide_eq_false h0]
          dsimp only
          by_cases h2 : (d.any fun p => decide (p.1 = t)) = true
          · rw [ih h2, if_neg hs]
          · have e : d.map (fun p => if p.1 = t then (p.1, v) else p) = d := by
              conv => rhs; rw [← List.map_id d]
              apply List.map_congr_left
              intro q hq
              rw [if_neg fun z => h2 (List.any_eq_true.mpr ⟨q, hq, decide_eq_true z⟩)]
              rfl
            rw [e]
      · rw [if_neg hp]
        have h2 : (d.any fun p => decide (p.1 = t)) = true := by
          rw [List.any_cons, decide_eq_false hp] at h
          exact h
        by_cases hps : p.1 = s
        · have hs : ¬ s = t := fun z => hp (hps.trans z)
          rw [decide_eq_true hps, if_neg hs]
        · rw [decide_eq_false hps]
          exact ih h2
  · rw [if_neg h]
    unfold aGet
    rw [List.find?_append]
    by_cases hs : s = t
    · subst hs
      have h0 : d.find? (fun p => decide (p.1 = s)) = none := by
        rw [List.find?_eq_none]
        intro q hq z
        exact h (List.any_eq_true.mpr ⟨q, hq, z⟩)
      rw [h0, if_pos rfl, List.find?_cons, decide_eq_true rfl]
      rfl
    · rw [if_neg hs, List.find?_cons, decide_eq_false (fun z => hs z.symm)]
      show Option.map _ ((List.find? _ d).or none) = _
      rw [Option.or_none]
/-- how often each turn stands, in the order of the first -/
def cntD (ts : List Turn) : List (Turn × Int) := ts.foldl (fun d t => aPut d t ((aGet d t).getD 0 + 1)) []
theorem cnt_fold (ts : List Turn) : ∀ d : List (Turn × Int), (d.map Prod.fst).Nodup → ((ts.foldl (fun d t => aPut d t ((aGet d t).getD 0 + 1)) d).map Prod.fst).Nodup ∧
    (ts.foldl (fun d t => aPut d t ((aGet d t).getD 0 + 1)) d).length ≤ d.length + ts.length ∧
    (∀ s, s ∈ (ts.foldl (fun d t => aPut d t ((aGet d t).getD 0 + 1)) d).map Prod.fst ↔ s ∈ ts ∨ s ∈ d.map Prod.fst) ∧
    ∀ s, (aGet (ts.foldl (fun d t => aPut d t ((aGet d t).getD 0 + 1)) d) s).getD 0 = (aGet d s).getD 0 + (ts.count s : Int) := by
  induction ts with
  | nil => intro d h; exact ⟨h, by simp, fun s => by simp, fun s => by simp⟩
  | cons t ts ih =>
    intro d h
    obtain ⟨h1, h2, h3, h4⟩ := ih (aPut d t ((aGet d t).getD 0 + 1)) (nodup_aPut h _ _)
    rw [List.foldl_cons]
    refine ⟨h1, ?_, fun s => ?_, fun s => ?_⟩
    · have := len_aPut d t ((aGet d t).getD 0 + 1)
      rw [List.length_cons]
      omega
    · rw [h3, mem_keys_aPut, List.mem_cons]
      constructor
      · rintro (a | a | a)
        · exact .inl (.inr a)
        · exact .inl (.inl a)
        · exact .inr a
      · rintro ((a | a) | a)
        · exact .inr (.inl a)
        · exact .inl a
        · exact .inr (.inr a)
    · rw [h4, aGet_aPut, List.count_cons]
      by_cases e : s = t
      · subst e
        simp
        omega
      · rw [if_neg e]
        have : (t == s) = false := by
          rw [beq_eq_false_iff_ne]
          exact fun z => e z.symm
        rw [this]
        simp
theorem aGet_of_mem {α : Type} {d : List (Turn × α)} (h : (d.map Prod.fst).Nodup) {t : Turn} {v : α} (hm : (t, v) ∈ d) : aGet d t = some v := by
  induction d with
  | nil => simp at hm
  | cons p d ih =>
    unfold aGet
    rw [List.find?_cons]
    rw [List.map_cons, List.nodup_cons] at h
    rcases List.mem_cons.mp hm with e | e
    · rw [← e]
      simp
    · have hne : ¬ p.1 = t := fun z => h.1 (by rw [z]; exact List.mem_map_of_mem (f := Prod.fst) e)
      rw [decide_eq_false hne]
      exact ih h.2 e
theorem cntD_ok (ts : List Turn) : ((cntD ts).map Prod.fst).Nodup ∧ (cntD ts).length ≤ ts.length ∧ (∀ s, s ∈ (cntD ts).map Prod.fst ↔ s ∈ ts) ∧ ∀ t n, (t, n) ∈ cntD ts → n = (ts.count t : Int) ∧ n ≠ 0 := by
  obtain ⟨h1, h2, h3, h4⟩ := cnt_fold ts [] List.nodup_nil
  refine ⟨h1, by unfold cntD; simpa using h2, fun s => by rw [show cntD ts = ts.foldl _ [] from rfl, h3]; simp, fun t n hm => ?_⟩
  have e := aGet_of_mem h1 hm
  have e4 := h4 t
  rw [e] at e4
  have hmem : t ∈ ts := by
    have := (h3 t).mp (List.mem_map_of_mem (f := Prod.fst) hm)
    simpa using this
  have hc := List.count_pos_iff.mpr hmem
  simp [aGet] at e4
  omega
end K31

set_option Elab.async false
set_option linter.all false
set_option maxRecDepth 100000
set_option maxHeartbeats 1000000
namespace K31
open PySem PySem.Spec PyProof.Rows L2
/-! ### data that tells its value -/
structure Fa {α : Type} [DecidableEq α] (f : α → PyData) (n : Nat) (ok : α → Prop) : Prop where
  eqv : ∀ a b, PyData.eqv (f a) (f b) = decide (a = b)
  lay : ∀ a, ok a → (f a).canLay0 = true
  dep : ∀ a, (f a).depth ≤ n
def okS (z : Str) : Prop := PyData.strOk z = true
theorem fa_int : Fa PyData.int 0 (fun _ => True) := ⟨fun a b => by simp [PyData.eqv, Bool.beq_eq_decide_eq], fun _ _ => by simp [PyData.canLay0], fun _ => by simp [PyData.depth]⟩
theorem fa_str : Fa PyData.str 0 okS := ⟨fun a b => by simp [PyData.eqv, Bool.beq_eq_decide_eq], fun a h => by
  rw [PyData.canLay0]
  exact h, fun _ => by simp [PyData.depth]⟩
theorem fa_pair {α β : Type} [DecidableEq α] [DecidableEq β] {f : α → PyData} {g : β → PyData} {n m : Nat} {o1 : α → Prop} {o2 : β → Prop} (F : Fa f n o1) (G : Fa g m o2) : Fa (fun p : α × β => PyData.tuple [f p.1, g p.2]) (max n m + 1) (fun p => o1 p.1 ∧ o2 p.2) := by
  refine ⟨fun a b => ?_, fun a h => ?_, fun a => ?_⟩
  · simp only [PyData.eqv, PyData.eqvAll, F.eqv, G.eqv, Bool.and_true]
    by_cases h1 : a.1 = b.1 <;> by_cases h2 : a.2 = b.2 <;> simp [h1, h2, Prod.ext_iff]
  · simp only [PyData.canLay0, PyData.canLayAll0, F.lay _ h.1, G.lay _ h.2, Bool.and_true]
  · have h1 := F.dep a.1
    have h2 := G.dep a.2
    simp only [PyData.depth, PyData.depthAll]
    omega
theorem eqvAll_map {α : Type} [DecidableEq α] {f : α → PyData} {n : Nat} {ok : α → Prop} (F : Fa f n ok) : ∀ a b : List α, PyData.eqvAll (a.map f) (b.map f) = decide (a = b)
  | [], [] => by simp [PyData.eqvAll]
  | [], _ :: _ => by simp [PyData.eqvAll]
  | _ :: _, [] => by simp [PyData.eqvAll]
  | x :: a, y :: b => by
    rw [List.map_cons, List.map_cons, PyData.eqvAll, F.eqv, eqvAll_map F a b]
    by_cases h1 : x = y <;> by_cases h2 : a = b <;> simp [h1, h2]
theorem layAll_map {α : Type} [DecidableEq α] {f : α → PyData} {n : Nat} {ok : α → Prop} (F : Fa f n ok) : ∀ a : List α, (∀ x ∈ a, ok x) → PyData.canLayAll0 (a.map f) = true
  | [], _ => by simp [PyData.canLayAll0]
  | x :: a, h => by
    rw [List.map_cons, PyData.canLayAll0, F.lay x (h x List.mem_cons_self), layAll_map F a fun y hy => h y (List.mem_cons_of_mem _ hy)]
    rfl
theorem depAll_map {α : Type} [DecidableEq α] {f : α → PyData} {n : Nat} {ok : α → Prop} (F : Fa f n ok) : ∀ a : List α, PyData.depthAll (a.map f) ≤ n
  | [] => by simp [PyData.depthAll]
  | x :: a => by
    rw [List.map_cons, PyData.depthAll]
    have h1 := F.dep x
    have h2 := depAll_map F a
    omega
theorem fa_list {α : Type} [DecidableEq α] {f : α → PyData} {n : Nat} {ok : α → Prop} (F : Fa f n ok) : Fa (fun l : List α => PyData.list (l.map f)) (n + 1) (fun l => ∀ x ∈ l, ok x) := by
  refine ⟨fun a b => ?_, fun a h => ?_, fun a => ?_⟩
  · rw [PyData.eqv]
    exact eqvAll_map F a b
  · rw [PyData.canLay0]
    exact layAll_map F a h
  · rw [PyData.depth]
    exact Nat.succ_le_succ (depAll_map F a)
theorem fa_tupl {α : Type} [DecidableEq α] {f : α → PyData} {n : Nat} {ok : α → Prop} (F : Fa f n ok) : Fa (fun l : List α => PyData.tuple (l.map f)) (n + 1) (fun l => ∀ x ∈ l, ok x) := by
  refine ⟨fun a b => ?_, fun a h => ?_, fun a => ?_⟩
  · rw [PyData.eqv]
    exact eqvAll_map F a b
  · rw [PyData.canLay0]
    exact layAll_map F a h
  · rw [PyData.depth]
    exact Nat.succ_le_succ (depAll_map F a)
theorem shaped_of {α : Type} [DecidableEq α] {f : α → PyData} {n : Nat} {ok : α → Prop} (F : Fa f n ok) {a : α} (h : ok a) (hn : n ≤ 64) : SeqAt.shaped (f a) = true := by
  unfold SeqAt.shaped
  rw [F.lay a h, decide_eq_true (Nat.le_trans (F.dep a) hn)]
  rfl
theorem cmp_eq {α : Type} [DecidableEq α] {f : α → PyData} {n : Nat} {ok : α → Prop} (F : Fa f n ok) (hn : n ≤ 64) {K : PySem.W.Frag} {H : Hp} {Q : VK} {v1 v2 : V} {a b : α} (d1 : Dp K H v1 (f a)) (d2 : Dp K H v2 (f b)) (o1 : ok a) (o2 : ok b) (q : Q (.bl (decide (a = b))) H) : rEqD K v1 v2 H Q := by
  refine ⟨_, _, d1, d2, shaped_of F o1 hn, shaped_of F o2 hn, ?_⟩
  rw [F.eqv]
  exact q
theorem cmp_ne {α : Type} [DecidableEq α] {f : α → PyData} {n : Nat} {ok : α → Prop} (F : Fa f n ok) (hn : n ≤ 64) {K : PySem.W.Frag} {H : Hp} {Q : VK} {v1 v2 : V} {a b : α} (d1 : Dp K H v1 (f a)) (d2 : Dp K H v2 (f b)) (o1 : ok a) (o2 : ok b) (q : Q (.bl (!decide (a = b))) H) : rNeD K v1 v2 H Q := by
  refine ⟨_, _, d1, d2, shaped_of F o1 hn, shaped_of F o2 hn, ?_⟩
  rw [F.eqv]
  exact q
theorem fa_turn : Fa dT 1 (fun _ => True ∧ True) := fa_pair fa_int fa_int
def dRoot (p : Turn × Int) : PyData := .tuple [dT p.1, .int p.2]
theorem fa_root : Fa dRoot 2 (fun _ => (True ∧ True) ∧ True) := fa_pair fa_turn fa_int
theorem dp_root {K : PySem.W.Frag} {H : Hp} {v : V} {t : Turn × Int} (h : rPair rTurn rInt H v t) : Dp K H v (dRoot t) := dp_pair (f := dT) (g := .int) dp_turn dp_int h
def dRoots (l : List (Turn × Int)) : PyData := .list (l.map dRoot)
theorem fa_roots : Fa dRoots 3 (fun l => ∀ x ∈ l, (True ∧ True) ∧ True) := fa_list fa_root
def dForm (l : List (Turn × Int)) : PyData := .tuple (l.map dRoot)
theorem fa_form : Fa dForm 3 (fun l => ∀ x ∈ l, (True ∧ True) ∧ True) := fa_tupl fa_root
abbrev Wr := List (Str × List (Turn × Int))
def dWrow (x : Str × List (Turn × Int)) : PyData := .tuple [.str x.1, dForm x.2]
theorem fa_wrow : Fa dWrow 4 (fun x => okS x.1 ∧ ∀ y ∈ x.2, (True ∧ True) ∧ True) := fa_pair fa_str fa_form
def dWr (l : Wr) : PyData := .tuple (l.map dWrow)
theorem fa_wr : Fa dWr 5 (fun l => ∀ x ∈ l, okS x.1 ∧ ∀ y ∈ x.2, (True ∧ True) ∧ True) := fa_tupl fa_wrow
def dTurns (l : List Turn) : PyData := .list (l.map dT)
theorem fa_turns : Fa dTurns 2 (fun l => ∀ x ∈ l, True ∧ True) := fa_list fa_turn
def dProw (x : Str × List Turn) : PyData := .tuple [.str x.1, dTurns x.2]
theorem fa_prow : Fa dProw 3 (fun x => okS x.1 ∧ ∀ y ∈ x.2, True ∧ True) := fa_pair fa_str fa_turns
def dPl (l : Pl) : PyData := .list (l.map dProw)
theorem fa_pl : Fa dPl 4 (fun l => ∀ x ∈ l, okS x.1 ∧ ∀ y ∈ x.2, True ∧ True) := fa_list fa_prow
theorem dp_pl {K : PySem.W.Frag} {H : Hp} {v : V} {p : Pl} (h : rPlace H v p) : Dp K H v (dPl p) := dp_list (f := dProw) (fun h => dp_pair (f := .str) (g := dTurns) dp_str (fun h => dp_list (f := dT) dp_turn h) h) h
theorem okS_name {z : Str} (h : IsName z) : okS z := by
  have h0 : ∀ y ∈ names6, PyData.strOk y = true := by decide +kernel
  exact h0 z h
end K31

set_option Elab.async false
set_option linter.all false
set_option maxRecDepth 100000
set_option maxHeartbeats 4000000
namespace K31
open PySem PySem.Spec PyProof.Rows L2
theorem getD_int (o : Option Int) : (o.map V.int).getD (.int 0) = .int (o.getD 0) := by cases o <;> rfl
abbrev rRoot : Rp (Turn × Int) := rPair rTurn rInt
theorem rRoot_tm : TM rRoot := rPair_tm rTurn_tm rInt_tm
theorem tk_tup {t : Turn} : (tk t).map kV = [.int t.1, .int t.2] := rfl
theorem take_fold {α β : Type} {f : β → α → β} {b : β} {l : List α} {i : Nat} {a : α} (h : l[i]? = some a) : (l.take (i + 1)).foldl f b = f ((l.take i).foldl f b) a := by
  rw [List.take_add_one, h, List.foldl_append]
  rfl
theorem enc_len {α : Type} (e : α → V) (d : List (Turn × α)) : (enc e d).length = d.length := List.length_map ..
theorem enc_get {α : Type} (e : α → V) {d : List (Turn × α)} {i : Nat} {k : List Key} {v : V} (h : (enc e d)[i]? = some (k, v)) : ∃ t a, d[i]? = some (t, a) ∧ k = tk t ∧ v = e a := by
  unfold enc at h
  rw [List.getElem?_map] at h
  obtain ⟨p, h1, h2⟩ := Option.map_eq_some_iff.mp h
  injection h2 with h3 h4
  exact ⟨p.1, p.2, h1, h3.symm, h4.symm⟩
theorem SameBut.tup {d : Addr} {H H' : Hp} {kvs : List (List Key × V)} (hd : H d = some (.dT kvs)) (s : ∀ b o, b ≠ d → H b = some o → H' b = some o) : TSame H H' := fun b xs e => s b _ (ne_of e hd fun z => nomatch z) e
section
variable {P : Program} {w : World} {K : PySem.W.Frag} {mg : Str → Option Value} {base : Heap}
def sp_integers_by_turn : Sp := fun vs H Q _ => ∃ v1 v2 ts, vs = [v1, v2] ∧ rList rRoot H v1 (ts.map fun t => (t, (1 : Int))) ∧ rList rRoot H v2 [] ∧ ts.length ≤ 3 ∧
  ∀ H' d, Same H H' → H d = none → H' d = some (.dT (enc V.int (cntD ts))) → Q (.ref d) H'
theorem df_integers_by_turn (T : Txt K mg) : Df P w K mg base 1 "integers_by_turn" ["roots", "other_roots"] sp_integers_by_turn := by
  refine Df.mk T.a_integers_by_turn sc_integers_by_turn (fun _ _ _ _ _ _ us hl => match us, hl with | [_, _], _ => rfl) (fun vs H Q E h => ?_) (fun f cdv A outer s H vs Q E hr h => ?_)
  · obtain ⟨_, _, _, rfl, _⟩ := h
    rfl
  · obtain ⟨_, _, ts, rfl, ⟨a, xs, rfl, ha, hp⟩, ⟨b, ys, rfl, hb, hpy⟩, hn, q⟩ := h
    refine ⟨_, (pss_cons (ps_set (i := 2) sc_integers_by_turn.nd rfl (.inl rfl) pe_dnewT)
  (pss_cons (ps_for PassesOwn.never rfl (pi_listK (K := K) rfl (pv 0)) (pg_tup rfl (pgs_cons (pg_name (i := 3) sc_integers_by_turn.nd rfl (.inl rfl)) (pgs_cons (pg_name (i := 4) sc_integers_by_turn.nd rfl (.inl rfl)) pgs_nil)))
  (pss_one (ps_dput (hu_of hr) (pv 2) (pv 3) (pe_op op_add (pe_dget2 (hu_of hr) (pv 2) (pv 3) pe_int ⟨rfl, rfl, rfl, rfl⟩) (pv 4)) rfl)))
  (pss_cons (ps_for PassesOwn.never rfl (pi_listK (K := K) rfl (pv 1)) (pg_tup rfl (pgs_cons (pg_name (i := 3) sc_integers_by_turn.nd rfl (.inl rfl)) (pgs_cons (pg_name (i := 4) sc_integers_by_turn.nd rfl (.inl rfl)) pgs_nil)))
  (pss_one (ps_dput (hu_of hr) (pv 2) (pv 3) (pe_op op_sub (pe_dget2 (hu_of hr) (pv 2) (pv 3) pe_int ⟨rfl, rfl, rfl, rfl⟩) (pv 4)) rfl)))
  (pss_one (ps_ret (pe_dcT (own := [("turn", 3), ("number", 4)]) (g := gTup K 2 (gCons (gName 3) (gCons (gName 4) gNil))) hr.units0 (by rfl) sc_integers_by_turn.nd (pi_itemsT (pv 2)) (blkOk_by (own := [("turn", 3), ("number", 4)]) (N := ["roots", "other_roots", "found", "turn", "number"]) (sc := defScope s_integers_by_turn) (by decide +kernel)) (fun _ _ _ _ _ => (pg_tup rfl (pgs_cons (pg_name (i := 3) sc_integers_by_turn.nd rfl (.inl rfl)) (pgs_cons (pg_name (i := 4) sc_integers_by_turn.nd rfl (.inl rfl)) pgs_nil)))) (fun _ _ _ _ _ => (pts_one (pt_cmpR op_ne (pv 4) pe_int (nomark _)))) (fun _ _ _ _ _ => (pv 3)) (fun _ _ _ _ _ => (pv 4)))))))), ?_⟩
    have hl : xs.length = ts.length := by
      rw [PySem.Paired.length hp, List.length_map]
    refine fun d nd => ⟨_, rfl, a, rfl, ⟨xs, SqL_of (same_upd nd _ _ ha)⟩, for_list (K := K) (a := a) (xs := xs)
      (fun i σ H' => ∃ y3 y4, σ = [some (.ref a), some (.ref b), some (.ref d), y3, y4] ∧ Same H H' ∧ H' d = some (.dT (enc V.int ((ts.take i).foldl (fun d t => aPut d t ((aGet d t).getD 0 + 1)) []))))
      ⟨none, none, rfl, same_upd nd, upd_same⟩ (fun i σ H' _ h => ?_) (fun i x σ H' hx h => ?_) (fun σ H' h => ?_)⟩
    · obtain ⟨_, _, _, s1, _⟩ := h
      exact SqL_of (s1 _ _ ha)
    · obtain ⟨y3, y4, rfl, s1, hd⟩ := h
      obtain ⟨r, hr1, p, x1, x2, rfl, hp1, ⟨c, rfl, hc⟩, r2⟩ := Paired.get hp hx
      rw [List.getElem?_map] at hr1
      obtain ⟨t, ht, rfl⟩ := Option.map_eq_some_iff.mp hr1
      obtain rfl : x2 = .int 1 := r2
      have hc1 : H' c = some (.tup ((tk t).map kV)) := s1 _ _ hc
      refine ⟨p, _, rfl, SqT_of (s1 _ _ hp1), rfl, _, _, rfl, _, _, rfl, rfl, ?_⟩
      have hg := val_enc V.int ((ts.take i).foldl (fun d t => aPut d t ((aGet d t).getD 0 + 1)) []) t
      refine ⟨_, rfl, d, rfl, .inr ⟨_, .inl hd⟩, _, rfl, _, DGet.t hd hc1, _, rfl, (aGet ((ts.take i).foldl (fun d t => aPut d t ((aGet d t).getD 0 + 1)) []) t).getD 0, 1, ?_, rfl, _, rfl, _, rfl, d, _, rfl, DPut.t hd hc1 ?_, ?_⟩
      · rw [hg]
        exact getD_int _
      · rw [enc_len]
        have h2 := (cnt_fold (ts.take i) [] List.nodup_nil).2.1
        rw [List.length_take] at h2
        exact Nat.lt_of_le_of_lt (Nat.le_trans h2 (by simp; omega)) (show 3 < sizeLine by decide)
      · refine ⟨some (.ref c), some (.int 1), rfl, Same.put nd s1, ?_⟩
        rw [upd_same, take_fold ht, ← put_enc]
    · obtain ⟨y3, y4, rfl, s1, hd⟩ := h
      rw [hl, List.take_length] at hd
      replace hd : H' d = some (.dT (enc V.int (cntD ts))) := hd
      cases hpy
      refine ⟨_, rfl, b, rfl, ⟨_, SqL_of (s1 _ _ hb)⟩, for_list (K := K) (a := b) (xs := []) (fun i σ H2 => σ = [some (.ref a), some (.ref b), some (.ref d), y3, y4] ∧ H2 = H') ⟨rfl, rfl⟩ (fun i σ H2 _ h => by rw [h.2]; exact SqL_of (s1 _ _ hb)) (fun i x σ H2 hx h => by simp at hx) (fun σ H2 h => ?_)⟩
      obtain ⟨rfl, rfl⟩ := h
      -- the new dict
      obtain ⟨k1, k2, k3, k4⟩ := cntD_ok ts
      refine ⟨_, rfl, d, _, rfl, hd, fun od D nD => ?_⟩
      have nD0 : H2 D = none ∧ D ≠ d := by
        by_cases e : D = d
        · rw [e, upd_same] at nD
          cases nD
        · rw [upd_ne e] at nD
          exact ⟨nD, e⟩
      have tsm : ∀ b o, b ≠ d → H2 b = some o → upd H2 d (.frz od (.dT (enc V.int (cntD ts)))) b = some o := fun b o hb e => by
        rw [upd_ne hb]
        exact e
      refine dcT_it walk_itemsT (fun i H3 => (∀ b o, b ≠ d → H2 b = some o → H3 b = some o) ∧ H3 d = some (.frz od (.dT (enc V.int (cntD ts)))) ∧ H3 D = some (.dT (enc V.int ((cntD ts).take i)))) ?_ (fun i H3 _ h => h.2.1) (fun i x H3 H3' hi h hy => ?_) (fun H3 h => ?_)
      · refine ⟨fun b o hb e => ?_, ?_, upd_same⟩
        · rw [upd_ne (ne_of_none e nD0.1)]
          exact tsm b o hb e
        · rw [upd_ne nD0.2.symm, upd_same]
      · obtain ⟨s3, g1, g2⟩ := h
        obtain ⟨p, k, v, b, hkv, hbk, rfl, np, rfl⟩ := hy
        obtain ⟨t, n, htn, rfl, rfl⟩ := enc_get V.int hkv
        have sp := same_upd (o := .tup [.ref b, .int n]) np
        have hn0 := k4 t n (List.mem_of_getElem? htn)
        refine ⟨p, _, rfl, SqT_of upd_same, rfl, _, _, rfl, _, _, rfl, rfl, rfl, _, rfl, rfl, true, ?_, ?_⟩
        · show V.bl (!decide (V.int n = V.int 0)) = V.bl true
          rw [decide_eq_false fun z => hn0.2 (V.int.inj z)]
          rfl
        refine iteT ⟨_, rfl, _, rfl, _, tk t, b, rfl, sp _ _ hbk, sp _ _ g2, ?_, fun b' o hb' e => ?_, ?_, ?_⟩
        · rw [enc_len, List.length_take]
          exact Nat.lt_of_le_of_lt (show min i (cntD ts).length ≤ 3 by omega) (by decide)
        · rw [upd_ne]
          · exact sp _ _ (s3 _ _ hb' e)
          · exact ne_of_none e nD0.1
        · rw [upd_ne nD0.2.symm]
          exact sp _ _ g1
        · have hnew : t ∉ ((cntD ts).take i).map Prod.fst := by
            intro hm
            have h2 : (cntD ts).map Prod.fst = ((cntD ts).take i).map Prod.fst ++ ((cntD ts).drop i).map Prod.fst := by
              rw [← List.map_append, List.take_append_drop]
            rw [h2] at k1
            refine (List.nodup_append.mp k1).2.2 t hm t ?_ rfl
            have h3 : (cntD ts).drop i = (t, n) :: (cntD ts).drop (i + 1) := by
              rw [List.drop_eq_getElem_cons (List.getElem?_eq_some_iff.mp htn).1, (List.getElem?_eq_some_iff.mp htn).2]
            rw [h3]
            exact List.mem_cons_self
          rw [upd_same, put_enc, aPut_new n hnew, List.take_add_one, htn]
          rfl
      · obtain ⟨s3, g1, g2⟩ := h
        rw [enc_len, List.take_length] at g2
        refine q H3 D (fun b o e => s3 b o (ne_of_none e nd) (s1 b o e)) (s1.free nD0.1) g2
end
end K31

set_option Elab.async false
set_option linter.all false
set_option maxRecDepth 100000
set_option maxHeartbeats 4000000
namespace K31
open PySem PySem.Spec PyProof.Rows L2
/-! ### the rows of the classes -/
def ofR (H : Hp) (x : Turn × Addr) (y : Turn × List Int) : Prop := x.1 = y.1 ∧ H x.2 = some (.lst (y.2.map V.int))
abbrev Rws (H : Hp) (g : List (Turn × Addr)) (f : List (Turn × List Int)) : Prop := Paired (ofR H) g f
theorem Rws.keys {H : Hp} : ∀ {g : List (Turn × Addr)} {f : List (Turn × List Int)}, Rws H g f → g.map Prod.fst = f.map Prod.fst
  | _, _, .nil => rfl
  | _, _, .cons r t => by rw [List.map_cons, List.map_cons, r.1, Rws.keys t]
theorem Rws.keep {H H' : Hp} {g : List (Turn × Addr)} {f : List (Turn × List Int)} (h : Rws H g f) (k : ∀ x ∈ g, ∀ ys, H x.2 = some (.lst ys) → H' x.2 = some (.lst ys)) : Rws H' g f := by
  induction h with
  | nil => exact .nil
  | cons r t ih => exact .cons ⟨r.1, k _ List.mem_cons_self _ r.2⟩ (ih fun x hx => k x (List.mem_cons_of_mem _ hx))
theorem Rws.there {H : Hp} {g : List (Turn × Addr)} {f : List (Turn × List Int)} (h : Rws H g f) : ∀ x ∈ g, ∃ ys, H x.2 = some (.lst ys) := by
  induction h with
  | nil => intro x hx; simp at hx
  | cons r t ih =>
    intro x hx
    rcases List.mem_cons.mp hx with e | e
    · rw [e]
      exact ⟨_, r.2⟩
    · exact ih x e
def setRow (c : Turn) (j : Nat) (n : Int) (f : List (Turn × List Int)) : List (Turn × List Int) := f.map fun e => if e.1 = c then (e.1, e.2.set j n) else e
def addRow (c : Turn) (f : List (Turn × List Int)) : List (Turn × List Int) := if c ∈ f.map Prod.fst then f else f ++ [(c, List.replicate 30 0)]
def stepR (f : List (Turn × List Int)) (p : Turn × Int) : List (Turn × List Int) := setRow (clsOf p.1) (partOf p.1).toNat p.2 (addRow (clsOf p.1) f)
def rowsD (d : List (Turn × Int)) : List (Turn × List Int) := d.foldl stepR []
theorem setRow_keys (c : Turn) (j : Nat) (n : Int) (f : List (Turn × List Int)) : (setRow c j n f).map Prod.fst = f.map Prod.fst := by
  unfold setRow
  rw [List.map_map]
  apply List.map_congr_left
  intro e _
  show (if e.1 = c then (e.1, e.2.set j n) else e).1 = e.1
  split <;> rfl
def Full (f : List (Turn × List Int)) : Prop := ∀ e ∈ f, e.2.length = 30
theorem addRow_full {c : Turn} {f : List (Turn × List Int)} (h : Full f) : Full (addRow c f) := by
  unfold addRow
  split
  · exact h
  · intro e he
    rcases List.mem_append.mp he with z | z
    · exact h e z
    · rw [List.mem_singleton.mp z]
      simp
theorem setRow_full {c : Turn} {j : Nat} {n : Int} {f : List (Turn × List Int)} (h : Full f) : Full (setRow c j n f) := by
  intro e he
  obtain ⟨e0, h0, rfl⟩ := List.mem_map.mp he
  split
  · rw [List.length_set]
    exact h e0 h0
  · exact h e0 h0
theorem addRow_nodup {c : Turn} {f : List (Turn × List Int)} (h : (f.map Prod.fst).Nodup) : ((addRow c f).map Prod.fst).Nodup := by
  unfold addRow
  split
  · exact h
  · rename_i hn
    rw [List.map_append]
    refine List.nodup_append.mpr ⟨h, by simp, fun a ha b hb => ?_⟩
    intro e
    rw [e] at ha
    simp at hb
    rw [hb] at ha
    exact hn ha
theorem addRow_mem (c : Turn) (f : List (Turn × List Int)) : c ∈ (addRow c f).map Prod.fst := by
  unfold addRow
  split
  · assumption
  · rw [List.map_append]
    exact List.mem_append_right _ (by simp)
theorem addRow_len (c : Turn) (f : List (Turn × List Int)) : (addRow c f).length ≤ f.length + 1 := by
  unfold addRow
  split
  · omega
  · simp
theorem rowsFold_ok : ∀ (d : List (Turn × Int)) (f : List (Turn × List Int)), Full f → (f.map Prod.fst).Nodup → Full (d.foldl stepR f) ∧ ((d.foldl stepR f).map Prod.fst).Nodup ∧ (d.foldl stepR f).length ≤ f.length + d.length
  | [], f, h1, h2 => ⟨h1, h2, by simp⟩
  | p :: d, f, h1, h2 => by
    obtain ⟨a, b, c⟩ := rowsFold_ok d (stepR f p) (setRow_full (addRow_full h1)) (by unfold stepR; rw [setRow_keys]; exact addRow_nodup h2)
    refine ⟨a, b, Nat.le_trans c ?_⟩
    have : (stepR f p).length ≤ f.length + 1 := by
      unfold stepR setRow
      rw [List.length_map]
      exact addRow_len _ _
    rw [List.length_cons]
    omega
theorem rowsD_ok (d : List (Turn × Int)) : Full (rowsD d) ∧ ((rowsD d).map Prod.fst).Nodup ∧ (rowsD d).length ≤ d.length := by
  obtain ⟨a, b, c⟩ := rowsFold_ok d [] (fun e he => by simp at he) (by simp)
  unfold rowsD
  exact ⟨a, b, by simpa using c⟩
theorem aGet_isSome {α : Type} {d : List (Turn × α)} {t : Turn} : (aGet d t).isSome = decide (t ∈ d.map Prod.fst) := by
  unfold aGet
  rw [Option.isSome_map]
  by_cases h : t ∈ d.map Prod.fst
  · rw [decide_eq_true h]
    obtain ⟨p, h1, h2⟩ := List.mem_map.mp h
    exact List.find?_isSome.mpr ⟨p, h1, decide_eq_true h2⟩
  · rw [decide_eq_false h]
    refine Bool.eq_false_iff.mpr fun z => ?_
    obtain ⟨p, h1, h2⟩ := List.find?_isSome.mp z
    exact h (by rw [← of_decide_eq_true h2]; exact List.mem_map_of_mem h1)
theorem aGet_mem {α : Type} {d : List (Turn × α)} {t : Turn} {a : α} (h : aGet d t = some a) : (t, a) ∈ d := by
  unfold aGet at h
  obtain ⟨p, h1, rfl⟩ := Option.map_eq_some_iff.mp h
  have h2 := List.mem_of_find?_eq_some h1
  have h3 := List.find?_some h1
  have h4 : p.1 = t := of_decide_eq_true h3
  rw [← h4]
  exact h2
/-- one row changed -/
theorem Rws.set {H : Hp} {c : Turn} {r : Addr} {j : Nat} {n : Int} {g : List (Turn × Addr)} {f : List (Turn × List Int)} (h : Rws H g f) (hk : (g.map Prod.fst).Nodup) (ha : (g.map Prod.snd).Nodup) (hm : (c, r) ∈ g) {ys : List V} (hr : H r = some (.lst ys)) :
    Rws (upd H r (.lst (ys.set j (.int n)))) g (setRow c j n f) := by
  have key : ∀ x ∈ g, (x.1 = c ↔ x.2 = r) := by
    intro x hx
    constructor
    · intro e
      have e1 := aGet_of_mem (d := g) hk (t := x.1) (v := x.2) hx
      have e2 := aGet_of_mem (d := g) hk (t := c) (v := r) hm
      rw [e, e2] at e1
      exact (Option.some.inj e1).symm
    · intro e
      obtain ⟨i, hi, e1⟩ := List.mem_iff_getElem.mp hx
      obtain ⟨k, hk', e2⟩ := List.mem_iff_getElem.mp hm
      have h1 : (g.map Prod.snd)[i]'(by rw [List.length_map]; exact hi) = (g.map Prod.snd)[k]'(by rw [List.length_map]; exact hk') := by
        rw [List.getElem_map, List.getElem_map, e1, e2]
        exact e
      have h2 := (List.getElem_inj ha).mp h1
      subst h2
      rw [← e1, e2]
  clear hk ha hm
  induction h with
  | nil => exact .nil
  | @cons x y g f q t ih =>
    refine .cons ?_ (ih fun z hz => key z (List.mem_cons_of_mem _ hz))
    have k0 := key x List.mem_cons_self
    obtain ⟨q1, q2⟩ := q
    show ofR _ x (if y.1 = c then (y.1, y.2.set j n) else y)
    by_cases e : y.1 = c
    · rw [if_pos e]
      have e2 := k0.mp (q1.trans e)
      refine ⟨q1, ?_⟩
      rw [e2] at q2 ⊢
      rw [hr] at q2
      have e3 : ys = y.2.map V.int := HO.lst.inj (Option.some.inj q2)
      rw [upd_same, e3]
      show _ = some (HO.lst ((y.2.set j n).map V.int))
      rw [List.map_set]
    · rw [if_neg e]
      refine ⟨q1, ?_⟩
      rw [upd_ne fun z => e (q1.symm.trans (k0.mpr z))]
      exact q2
section
variable {P : Program} {w : World} {K : PySem.W.Frag} {mg : Str → Option Value} {base : Heap}
def DcOk (d : List (Turn × Int)) : Prop := d.length ≤ 3 ∧ ∀ p ∈ d, TOk 600 p.1 ∧ 0 ≤ partOf p.1 ∧ partOf p.1 < 30
def sp_rows_by_class : Sp := fun vs H Q _ => ∃ d dct, vs = [.ref d] ∧ H d = some (.dT (enc V.int dct)) ∧ DcOk dct ∧
  ∀ H' D g, (∀ b o, b ≠ d → H b = some o → H' b = some o) → H D = none → H' D = some (.dT (enc V.ref g)) → Rws H' g (rowsD dct) → (∀ x ∈ g, H x.2 = none) → (g.map Prod.snd).Nodup → Q (.ref D) H'
theorem df_rows_by_class (T : Txt K mg) : Df P w K mg base 5 "rows_by_class" ["integers"] sp_rows_by_class := by
  have D_part_in := df_part_in (P := P) (w := w) (base := base) T
  refine Df.mk T.a_rows_by_class sc_rows_by_class (fun _ _ _ _ _ _ us hl => match us, hl with | [_], _ => rfl) (fun vs H Q E h => ?_) (fun f cdv A outer s H vs Q E hr h => ?_)
  · obtain ⟨_, _, rfl, _⟩ := h
    rfl
  · obtain ⟨d, dct, rfl, hd, ⟨hn, hok⟩, q⟩ := h
    refine ⟨_, (pss_cons (ps_set (i := 1) sc_rows_by_class.nd rfl (.inl rfl) pe_dnewT)
  (pss_cons (ps_for PassesOwn.never rfl (pi_itemsT (pv 0)) (pg_tup rfl (pgs_cons (pg_name (i := 2) sc_rows_by_class.nd rfl (.inl rfl)) (pgs_cons (pg_name (i := 3) sc_rows_by_class.nd rfl (.inl rfl)) pgs_nil)))
  (pss_cons (ps_asg (pe_df D_part_in hr (by decide) (by rfl) (pa_cons (pv 2) pa_nil)) (pg_tup rfl (pgs_cons (pg_name (i := 4) sc_rows_by_class.nd rfl (.inl rfl)) (pgs_cons (pg_name (i := 5) sc_rows_by_class.nd rfl (.inl rfl)) pgs_nil))))
  (pss_cons (ps_if (pt_cmp (pc_dnotin (hu_of hr) (pv 5) (pv 1))) (pss_one (ps_dput (hu_of hr) (pv 1) (pv 5) (pe_op op_rep (pe_lst (pa_cons pe_int pa_nil)) T.g_PARTS) rfl)) pss_nil)
  (pss_one (ps_asg (pv 3) (pg_sub (pe_dget (hu_of hr) (pv 1) (pv 5) (fun _ _ => rfl)) (pv 4) set_list))))))
  (pss_one (ps_ret (pv 1))))), ?_⟩
    refine fun D nD => ?_
    have nDd : d ≠ D := ne_of_none hd nD
    refine ⟨_, rfl, d, _, rfl, (same_upd nD) _ _ hd, fun od => for_it walk_itemsT
      (fun i σ H' => ∃ y2 y3 y4 y5 g, σ = [some (.ref d), some (.ref D), y2, y3, y4, y5] ∧ (∀ b o, b ≠ d → H b = some o → H' b = some o) ∧ H' d = some (.frz od (.dT (enc V.int dct))) ∧ H' D = some (.dT (enc V.ref g)) ∧
        Rws H' g ((dct.take i).foldl stepR []) ∧ (∀ x ∈ g, H x.2 = none) ∧ (g.map Prod.snd).Nodup)
      ⟨none, none, none, none, [], rfl, fun b o hb e => ?_, upd_same, ?_, .nil, fun x hx => by simp at hx, by simp⟩ (fun i σ H' _ h => ?_) (fun i x σ H' H'' hi h hy => ?_) (fun σ H' h => ?_)⟩
    · rw [upd_ne hb]
      exact same_upd nD _ _ e
    · rw [upd_ne nDd.symm, upd_same]
      rfl
    · obtain ⟨_, _, _, _, _, _, _, e, _⟩ := h
      exact e
    · obtain ⟨y2, y3, y4, y5, g, rfl, s1, hd1, hD1, hR, hfr, hnd⟩ := h
      obtain ⟨p, k, v, b, hkv, hbk, rfl, np, rfl⟩ := hy
      obtain ⟨t, n, htn, rfl, rfl⟩ := enc_get V.int hkv
      obtain ⟨ok1, ok2, ok3⟩ := hok _ (List.mem_of_getElem? htn)
      replace ok3 : partOf t < 30 := ok3
      replace ok2 : 0 ≤ partOf t := ok2
      have sp := same_upd (o := .tup [.ref b, .int n]) np
      refine ⟨p, _, rfl, SqT_of upd_same, rfl, _, _, rfl, _, _, rfl, rfl, ?_⟩
      refine ⟨_, rfl, _, t, rfl, ⟨b, rfl, sp _ _ hbk⟩, ok1, fun H2 v2 s2 r2 => ?_⟩
      obtain ⟨p2, x1, x2, rfl, hp2, rx1, c, rfl, hc⟩ := r2
      obtain rfl : x1 = .int (partOf t) := rx1
      have hck : H2 c = some (.tup ((tk (clsOf t)).map kV)) := hc
      have sA := sp.trans s2
      have hD2 := sA _ _ hD1
      refine ⟨p2, _, rfl, SqT_of hp2, rfl, _, _, rfl, _, _, rfl, rfl, ?_⟩
      have hkeys : g.map Prod.fst = ((dct.take i).foldl stepR []).map Prod.fst := hR.keys
      obtain ⟨full, nodk, _⟩ := rowsFold_ok (dct.take i) [] (fun e he => by simp at he) (by simp)
      have hfold : ∀ f0, f0 = stepR ((dct.take i).foldl stepR []) (t, n) → f0 = (dct.take (i + 1)).foldl stepR [] := fun f0 e => by rw [e, take_fold htn]
      -- the end of the turn: found[turn_class][part] = number
      have fin : ∀ (H3 : Hp) (g' : List (Turn × Addr)) (r : Addr) (y2 y3 : Option V), (∀ b o, b ≠ d → H b = some o → H3 b = some o) → H3 d = some (.frz od (.dT (enc V.int dct))) → H3 D = some (.dT (enc V.ref g')) → H3 c = some (.tup ((tk (clsOf t)).map kV)) →
          Rws H3 g' (addRow (clsOf t) ((dct.take i).foldl stepR [])) → (∀ x ∈ g', H x.2 = none) → (g'.map Prod.snd).Nodup → (clsOf t, r) ∈ g' →
          ∃ y2 y3 y4 y5 g, [some (V.ref d), some (.ref D), some (.ref b), some (.int n), some (.int (partOf t)), some (.ref c)] = [some (V.ref d), some (.ref D), y2, y3, y4, y5] ∧
            ∃ (ys : List V), H3 r = some (.lst ys) ∧ ixN ys.length (partOf t) = some (partOf t).toNat ∧
            (∀ b o, b ≠ d → H b = some o → (upd H3 r (.lst (ys.set (partOf t).toNat (.int n)))) b = some o) ∧ (upd H3 r (.lst (ys.set (partOf t).toNat (.int n)))) d = some (.frz od (.dT (enc V.int dct))) ∧ (upd H3 r (.lst (ys.set (partOf t).toNat (.int n)))) D = some (.dT (enc V.ref g)) ∧
            Rws (upd H3 r (.lst (ys.set (partOf t).toNat (.int n)))) g ((dct.take (i + 1)).foldl stepR []) ∧ (∀ x ∈ g, H x.2 = none) ∧ (g.map Prod.snd).Nodup := by
        intro H3 g' r _ _ s3 hd3 hD3 hc3 hR3 hfr3 hnd3 hm
        obtain ⟨ys, hys⟩ := hR3.there _ hm
        have hk3 : (g'.map Prod.fst).Nodup := by
          rw [hR3.keys]
          exact addRow_nodup nodk
        have hlen : ys.length = 30 := by
          obtain ⟨j, hj⟩ := List.mem_iff_getElem?.mp hm
          obtain ⟨e, he, q1, q2⟩ := Paired.get hR3 hj
          rw [hys] at q2
          have := addRow_full (c := clsOf t) full e (List.mem_of_getElem? he)
          rw [HO.lst.inj (Option.some.inj q2), List.length_map]
          exact this
        refine ⟨_, _, _, _, g', rfl, ys, hys, ?_, fun b' o hb e => ?_, ?_, ?_, ?_, hfr3, hnd3⟩
        · unfold ixN
          rw [if_pos ok2, if_pos (by omega)]
        · rw [upd_ne]
          · exact s3 _ _ hb e
          · exact ne_of_none e (hfr3 _ hm)
        · rw [upd_ne (ne_of hd3 hys fun z => nomatch z)]
          exact hd3
        · rw [upd_ne (ne_of hD3 hys fun z => nomatch z)]
          exact hD3
        · rw [take_fold htn]
          exact hR3.set hk3 hnd3 hm hys
      have sAd : ∀ b o, b ≠ d → H b = some o → H2 b = some o := fun b' o hb e => sA _ _ (s1 _ _ hb e)
      have hRA : Rws H2 g ((dct.take i).foldl stepR []) := hR.keep fun x _ ys e => sA _ _ e
      have hval : valV (enc V.ref g) (tk (clsOf t)) = (aGet g (clsOf t)).map V.ref := val_enc V.ref g (clsOf t)
      have hsome : (valV (enc V.ref g) (tk (clsOf t))).isSome = decide (clsOf t ∈ g.map Prod.fst) := by
        rw [hval, Option.isSome_map, aGet_isSome]
      refine ⟨_, rfl, _, rfl, D, _, rfl, DGet.t hD2 hck, _, rfl, ?_⟩
      rw [hsome]
      by_cases hmem : clsOf t ∈ g.map Prod.fst
      · rw [decide_eq_true hmem]
        refine iteF ?_
        have hs : (aGet g (clsOf t)).isSome = true := by rw [aGet_isSome, decide_eq_true hmem]
        obtain ⟨r, hgr⟩ := Option.isSome_iff_exists.mp hs
        have hR3 : Rws H2 g (addRow (clsOf t) ((dct.take i).foldl stepR [])) := by
          unfold addRow
          rw [if_pos (by rw [← hkeys]; exact hmem)]
          exact hRA
        obtain ⟨z2, z3, z4, z5, g9, e9, ys, hys, hix, f1, f2, f3, f4, f5, f6⟩ := fin H2 g r none none sAd (sA _ _ hd1) hD2 hck hR3 hfr hnd (aGet_mem hgr)
        refine ⟨_, rfl, _, rfl, _, rfl, D, .ref r, rfl, ?_, _, rfl, r, ys, _, _, rfl, rfl, hys, hix, z2, z3, z4, z5, g9, e9, f1, f2, f3, f4, f5, f6⟩
        have := DGet.t hD2 hck
        rw [hval, hgr] at this
        exact this
      · rw [decide_eq_false hmem]
        refine iteT ?_
        -- found[turn_class] = [0] * PARTS
        refine ⟨by show 1 ≤ sizeLine; decide, fun z nz => ?_⟩
        have sz := same_upd (o := .lst [.int 0]) nz
        refine ⟨z, 30, [.int 0], rfl, rfl, upd_same, by decide, by decide, by decide, fun r nr => ?_⟩
        have erep : ((List.replicate (30 : Int).toNat [V.int 0]).flatten) = (List.replicate 30 (0 : Int)).map V.int := by rfl
        rw [erep]
        have sr := same_upd (o := .lst ((List.replicate 30 (0 : Int)).map V.int)) nr
        have sB := (sA.trans sz).trans sr
        have hDr := (sz.trans sr) _ _ hD2
        have hcr := (sz.trans sr) _ _ hck
        refine ⟨_, rfl, _, rfl, D, _, rfl, DPut.t hDr hcr ?_, ?_⟩
        · rw [enc_len]
          have h1 : g.length = ((dct.take i).foldl stepR []).length := PySem.Paired.length hR
          have h2 := (rowsFold_ok (dct.take i) [] (fun e he => by simp at he) (by simp)).2.2
          rw [List.length_take] at h2
          refine Nat.lt_of_le_of_lt (show g.length ≤ 3 from ?_) (by decide)
          simp at h2
          omega
        have eput : putK (enc V.ref g) (tk (clsOf t)) (.ref r) = enc V.ref (g ++ [(clsOf t, r)]) := by
          rw [put_enc, aPut_new r hmem]
        rw [eput]
        have hrD : r ≠ D := (ne_of_none (sz _ _ hD2) nr).symm
        have hcD : c ≠ D := ne_of hcr hDr fun z => nomatch z
        have hdD : d ≠ D := nDd
        have hHr : H r = none := by
          cases e : H r with
          | none => rfl
          | some o =>
            by_cases hrd : r = d
            · rw [hrd] at nr
              rw [(sA.trans sz) _ _ hd1] at nr
              cases nr
            · rw [sz _ _ (sAd _ _ hrd e)] at nr
              cases nr
        have hR3 : Rws (upd (upd (upd H2 z (.lst [.int 0])) r (.lst ((List.replicate 30 (0 : Int)).map V.int))) D (.dT (enc V.ref (g ++ [(clsOf t, r)])))) (g ++ [(clsOf t, r)]) (addRow (clsOf t) ((dct.take i).foldl stepR [])) := by
          unfold addRow
          rw [if_neg (by rw [← hkeys]; exact hmem)]
          refine Paired.app (hRA.keep fun x hx ys e => ?_) (.cons ⟨rfl, ?_⟩ .nil)
          · rw [upd_ne (ne_of e hD2 fun z => nomatch z)]
            exact (sz.trans sr) _ _ e
          · rw [upd_ne hrD, upd_same]
        have hnd3 : ((g ++ [(clsOf t, r)]).map Prod.snd).Nodup := by
          rw [List.map_append]
          refine List.nodup_append.mpr ⟨hnd, by simp, fun a ha b hb => ?_⟩
          intro e
          rw [e] at ha
          simp at hb
          rw [hb] at ha
          obtain ⟨x, hx, e2⟩ := List.mem_map.mp ha
          obtain ⟨ys, hys⟩ := hRA.there x hx
          rw [e2] at hys
          rw [sz _ _ hys] at nr
          cases nr
        have hfr3 : ∀ x ∈ g ++ [(clsOf t, r)], H x.2 = none := fun x hx => by
          rcases List.mem_append.mp hx with e | e
          · exact hfr x e
          · rw [List.mem_singleton.mp e]
            exact hHr
        obtain ⟨z2, z3, z4, z5, g9, e9, ys, hys, hix, f1, f2, f3, f4, f5, f6⟩ := fin _ (g ++ [(clsOf t, r)]) r none none (fun b' o hb e => by
          rw [upd_ne (ne_of_none e nD)]
          exact (sz.trans sr) _ _ (sAd _ _ hb e)) (by
          rw [upd_ne hdD]
          exact sB _ _ hd1) upd_same (by
          rw [upd_ne hcD]
          exact hcr) hR3 hfr3 hnd3 (List.mem_append_right _ (by simp))
        refine ⟨_, rfl, _, rfl, _, rfl, D, .ref r, rfl, ?_, _, rfl, r, ys, _, _, rfl, rfl, hys, hix, z2, z3, z4, z5, g9, e9, f1, f2, f3, f4, f5, f6⟩
        have hg2 := DGet.t (H := upd (upd (upd H2 z (.lst [.int 0])) r (.lst ((List.replicate 30 (0 : Int)).map V.int))) D (.dT (enc V.ref (g ++ [(clsOf t, r)])))) (a := D) (b := c) (k := tk (clsOf t)) upd_same (by
          rw [upd_ne hcD]
          exact hcr)
        have hv : valV (enc V.ref (g ++ [(clsOf t, r)])) (tk (clsOf t)) = some (.ref r) := by
          rw [val_enc, ← aPut_new r hmem, aGet_aPut, if_pos rfl]
          rfl
        rw [hv] at hg2
        exact hg2
    · obtain ⟨y2, y3, y4, y5, g, rfl, s1, hd1, hD1, hR, hfr, hnd⟩ := h
      rw [enc_len, List.take_length] at hR
      exact ⟨_, rfl, q H' D g s1 nD hD1 hR hfr hnd⟩
end
end K31

set_option Elab.async false
set_option linter.all false
set_option maxRecDepth 100000
set_option maxHeartbeats 4000000
namespace K31
open PySem PySem.Spec PyProof.Rows L2
def subAt (x : Int) (r : List Int) (j : Nat) : List Int := r.set j (r.getD j 0 - x)
def takeP (p part : Nat) (r : List Int) : List Int := if r.getD part 0 = 0 then r else (List.range p).foldl (fun s k => subAt (r.getD part 0) s ((part + k * (30 / p)) % 30)) r
def primeP (r : List Int) (p : Nat) : List Int := (List.range (30 / p)).foldl (fun s i => takeP p (p - 1 + i * p) s) r
@[irreducible] def keptL (r : List Int) : List Int := [2, 3, 5].foldl primeP r
theorem subAt_len (x : Int) (r : List Int) (j : Nat) : (subAt x r j).length = r.length := List.length_set ..
theorem foldl_len {α : Type} {f : List Int → α → List Int} (h : ∀ s k, (f s k).length = s.length) : ∀ (l : List α) (r : List Int), (l.foldl f r).length = r.length
  | [], _ => rfl
  | a :: l, r => by rw [List.foldl_cons, foldl_len h l, h]
theorem takeP_len (p part : Nat) (r : List Int) : (takeP p part r).length = r.length := by
  unfold takeP
  split
  · rfl
  · exact foldl_len (fun s k => subAt_len _ _ _) _ _
theorem primeP_len (r : List Int) (p : Nat) : (primeP r p).length = r.length := foldl_len (fun s k => takeP_len _ _ _) _ _
theorem keptL_eq (r : List Int) : keptL r = [2, 3, 5].foldl primeP r := by unfold keptL; rfl
theorem keptL_len (r : List Int) : (keptL r).length = r.length := by
  rw [keptL_eq]
  exact foldl_len (fun s k => primeP_len _ _) _ _
theorem range_fold {β : Type} {f : β → Nat → β} {b : β} {i : Nat} : (List.range (i + 1)).foldl f b = f ((List.range i).foldl f b) i := by
  rw [List.range_succ, List.foldl_append]
  rfl
theorem get_map_int {r : List Int} {j : Nat} (h : j < r.length) : (r.map V.int)[j]? = some (.int (r.getD j 0)) := by
  rw [List.getElem?_map, List.getElem?_eq_getElem h]
  simp [List.getD, List.getElem?_eq_getElem h]
theorem three {i : Nat} {x : V} (h : ([.int 2, .int 3, .int 5] : List V)[i]? = some x) : ∃ p : Nat, (p = 2 ∨ p = 3 ∨ p = 5) ∧ x = .int (p : Int) ∧ ([2, 3, 5] : List Nat)[i]? = some p ∧ i < 3 := by
  rcases i with _ | _ | _ | i
  · exact ⟨2, .inl rfl, (Option.some.inj h).symm, rfl, by omega⟩
  · exact ⟨3, .inr (.inl rfl), (Option.some.inj h).symm, rfl, by omega⟩
  · exact ⟨5, .inr (.inr rfl), (Option.some.inj h).symm, rfl, by omega⟩
  · simp at h
theorem small200 {n : Nat} (h : n ≤ 200) : n < sizeLine := Nat.lt_of_le_of_lt h (by decide)
section
variable {P : Program} {w : World} {K : PySem.W.Frag} {mg : Str → Option Value} {base : Heap}
def sp_kept_row : Sp := fun vs H Q _ => ∃ a r, vs = [.ref a] ∧ H a = some (.lst (List.map V.int r)) ∧ r.length = 30 ∧
  ∀ H' p kp tn, Same H H' → H' p = some (.tup [.ref kp, .ref tn]) → H kp = none → H' kp = some (.lst ((keptL r).map V.int)) → Q (.ref p) H'
theorem df_kept_row (T : Txt K mg) : Df P w K mg base 1 "kept_row" ["row"] sp_kept_row := by
  refine Df.mk T.a_kept_row sc_kept_row (fun _ _ _ _ _ _ us hl => match us, hl with | [_], _ => rfl) (fun vs H Q E h => ?_) (fun f cdv A outer s H vs Q E hr h => ?_)
  · obtain ⟨_, _, rfl, _⟩ := h
    rfl
  · obtain ⟨a, r, rfl, ha, hr30, q⟩ := h
    refine ⟨_, (pss_cons (ps_par (i := 1) (j := 2) (by rfl) sc_kept_row.nd rfl rfl (by decide) rfl rfl (pa_cons (pe_callTy call_list_of (by rfl) T.z_list bt_list (pa_cons (pv 0) pa_nil)) (pa_cons (pe_lst pa_nil) pa_nil)) (by rfl))
  (pss_cons (ps_for PassesOwn.never rfl (pi_tup T.g_PRIMES) (pg_name (i := 3) sc_kept_row.nd rfl (.inl rfl))
  (pss_one (ps_for PassesOwn.never rfl (pi_range3 (by rfl) T.z_range (pa_cons (pe_op op_sub (pv 3) pe_int) (pa_cons T.g_PARTS (pa_cons (pv 3) pa_nil)))) (pg_name (i := 4) sc_kept_row.nd rfl (.inl rfl))
  (pss_cons (ps_set (i := 5) sc_kept_row.nd rfl (.inl rfl) (pe_ix (ix_listK (K := K) rfl) (pv 1) (pv 4) (fun _ _ => rfl)))
  (pss_one (ps_if (pt_cmpR op_ne (pv 5) pe_int (nomark _)) (pss_cons (ps_expr (pe_bm PySem.F.plainAttrs_list PySem.F.slot_list_append PySem.F.type_list_append mt_append (pv 2) (pa_cons (pe_tup (pa_cons (pv 3) (pa_cons (pv 4) (pa_cons (pv 5) pa_nil)))) pa_nil)))
  (pss_one (ps_for PassesOwn.never rfl (pi_range1 (by rfl) T.z_range (pa_cons (pv 3) pa_nil)) (pg_name (i := 6) sc_kept_row.nd rfl (.inl rfl))
  (pss_one (ps_augS (pv 1) (pe_op op_mod (pe_callTy call_int1 (by rfl) T.z_int bt_int (pa_cons (pe_op op_add (pv 4) (pe_op op_mulW (pv 6) (pe_op op_fdivW T.g_PARTS (pv 3)))) pa_nil)) T.g_PARTS) (get_listK (K := K) rfl) (pv 5) ip_sub set_list))))) pss_nil))))))
  (pss_one (ps_ret (pe_tup (pa_cons (pv 1) (pa_cons (pv 2) pa_nil))))))), ?_⟩
    refine ⟨_, rfl, a, _, rfl, .inl (SqL_of ha), fun kp nk => ⟨Nat.zero_le _, fun tn nt => ⟨_, _, rfl, ?_⟩⟩⟩
    have sk := same_upd (o := .lst (r.map V.int)) nk
    have st := same_upd (o := .lst []) nt
    have hkt : kp ≠ tn := ne_of_none upd_same nt
    have ntH : H tn = none := by
      rw [upd_ne hkt.symm] at nt
      exact nt
    -- what holds: the row so far, the list of what was taken off
    let St : Hp → List Int → Nat → Prop := fun H' r' m => Same H H' ∧ H' kp = some (.lst (r'.map V.int)) ∧ r'.length = 30 ∧ ∃ ts, H' tn = some (.lst ts) ∧ ts.length ≤ m
    intro pa hpa
    refine ⟨pa, rfl, ⟨_, hpa _⟩, for_tup (K := K) (a := pa) (xs := [.int 2, .int 3, .int 5])
      (fun i σ H' => ∃ y3 y4 y5 y6, σ = [some (.ref a), some (.ref kp), some (.ref tn), y3, y4, y5, y6] ∧ St H' (([2, 3, 5].take i).foldl primeP r) (30 * i)) ⟨none, none, none, none, rfl, sk.trans st, ?_, hr30, [], upd_same, Nat.le_refl _⟩ (fun i σ H' _ _ => hpa H') (fun i x σ H' hx h => ?_) (fun σ H' h => ?_)⟩
    · rw [upd_ne hkt, upd_same]
      rfl
    · obtain ⟨y3, y4, y5, y6, rfl, hSt⟩ := h
      obtain ⟨p, hp, rfl, hpi, hi3⟩ := three hx
      rw [take_fold hpi]
      generalize ([2, 3, 5].take i).foldl primeP r = r1 at hSt ⊢
      have hp2 : 2 ≤ p ∧ p ≤ 5 ∧ p * (30 / p) = 30 := by
        rcases hp with rfl | rfl | rfl <;> decide
      have hrg : RgC ((p : Int) - 1) 30 (p : Int) (30 / p) := by
        rcases hp with rfl | rfl | rfl <;> exact ⟨by decide, by decide, by decide, by decide⟩
      -- for part in range(prime - 1, PARTS, prime)
      refine ⟨_, rfl, _, 1, rfl, rfl, _, rfl, (p : Int) - 1, 30, (p : Int), 30 / p, rfl, hrg, for_it walk_rangeC
        (fun k σ H' => ∃ y4 y5 y6, σ = [some (.ref a), some (.ref kp), some (.ref tn), some (.int (p : Int)), y4, y5, y6] ∧ St H' ((List.range k).foldl (fun s i => takeP p (p - 1 + i * p) s) r1) (30 * i + k))
        ⟨y4, y5, y6, rfl, hSt⟩ (fun _ _ _ _ _ => trivial) (fun k x σ H1 H1' hk h hy => ?_) (fun σ H1 h => ?_)⟩
      · obtain ⟨y4, y5, y6, rfl, hSt1⟩ := h
        obtain ⟨rfl, hxv⟩ := hy
        rw [range_fold]
        generalize (List.range k).foldl (fun s i => takeP p (p - 1 + i * p) s) r1 = r2 at hSt1 ⊢
        obtain ⟨part, hpart, hpl⟩ : ∃ part : Nat, part = p - 1 + k * p ∧ part < 30 := by
          refine ⟨_, rfl, ?_⟩
          have h1 : (k + 1) * p ≤ (30 / p) * p := Nat.mul_le_mul_right p hk
          rw [Nat.mul_comm (30 / p), hp2.2.2, Nat.add_mul, Nat.one_mul] at h1
          omega
        have epart : (p : Int) - 1 + (k : Int) * (p : Int) = (part : Int) := by
          rw [hpart]
          have : ((p - 1 + k * p : Nat) : Int) = ((p - 1 : Nat) : Int) + ((k * p : Nat) : Int) := rfl
          rw [this, Int.natCast_mul]
          omega
        obtain rfl : x = .int (part : Int) := hxv.trans (congrArg V.int epart)
        rw [← hpart]
        obtain ⟨s2, hk2, hl2, ts, hts, htl⟩ := hSt1
        have hget := get_map_int (r := r2) (j := part) (by omega)
        -- number = kept[part]
        refine ⟨_, rfl, _, rfl, kp, _, _, _, rfl, rfl, SqL_of hk2, atI_nat hget, ?_⟩
        refine ⟨_, rfl, rfl, _, rfl, ?_⟩
        by_cases h0 : r2.getD part 0 = 0
        · rw [decide_eq_true (congrArg V.int h0)]
          refine iteF ⟨_, _, _, rfl, s2, ?_, ?_, ts, hts, by omega⟩
          · unfold takeP
            rw [if_pos h0]
            exact hk2
          · rw [takeP_len]
            exact hl2
        · rw [decide_eq_false fun z => h0 (V.int.inj z)]
          refine iteT ?_
          have hk30 : k < 30 := Nat.lt_of_lt_of_le hk (Nat.div_le_self 30 p)
          have htz : ts.length < sizeLine := small200 (by omega)
          refine ⟨_, rfl, .inl ⟨rfl, _, SqL_of hts⟩, _, rfl, _, rfl, _, rfl, by show 3 ≤ sizeLine; decide, fun t nt2 => ⟨tn, _, _, rfl, rfl, same_upd nt2 _ _ hts, htz, ?_⟩⟩
          have s3 : Same H (upd (upd H1' t (.tup [.int (p : Int), .int (part : Int), .int (r2.getD part 0)])) tn (.lst (ts ++ [.ref t]))) := Same.put ntH (s2.trans (same_upd nt2))
          have hk3 : (upd (upd H1' t (.tup [.int (p : Int), .int (part : Int), .int (r2.getD part 0)])) tn (.lst (ts ++ [.ref t]))) kp = some (.lst (r2.map V.int)) := by
            rw [upd_ne hkt]
            exact same_upd nt2 _ _ hk2
          refine ⟨_, rfl, (p : Int), rfl, by omega, by omega, for_it (walk_range (n := (p : Int).toNat))
            (fun j σ H' => ∃ y6, σ = [some (.ref a), some (.ref kp), some (.ref tn), some (.int (p : Int)), some (.int (part : Int)), some (.int (r2.getD part 0)), y6] ∧
              Same H H' ∧ H' kp = some (.lst (((List.range j).foldl (fun s k => subAt (r2.getD part 0) s ((part + k * (30 / p)) % 30)) r2).map V.int)) ∧ ∃ ts', H' tn = some (.lst ts') ∧ ts'.length ≤ 30 * i + (k + 1))
            ⟨y6, rfl, s3, hk3, _, upd_same, by rw [List.length_append, List.length_singleton]; omega⟩ (fun _ _ _ _ _ => trivial) (fun j x σ H2 H2' hj h hy => ?_) (fun σ H2 h => ?_)⟩
          · obtain ⟨y6, rfl, s4, hk4, ts', hts', htl'⟩ := h
            obtain ⟨rfl, hxv⟩ := hy
            obtain rfl : x = .int (j : Int) := by
              rw [hxv]
              show V.int (0 + (j : Int)) = V.int (j : Int)
              rw [Int.zero_add]
            rw [range_fold]
            have hlen : ((List.range j).foldl (fun s k => subAt (r2.getD part 0) s ((part + k * (30 / p)) % 30)) r2).length = 30 := by
              rw [foldl_len fun s k => subAt_len _ _ _]
              exact hl2
            generalize (List.range j).foldl (fun s k => subAt (r2.getD part 0) s ((part + k * (30 / p)) % 30)) r2 = r3 at hk4 hlen ⊢
            have hz : ((part : Int) + (j : Int) * (30 / (p : Int))) % 30 = (((part + j * (30 / p)) % 30 : Nat) : Int) := by
              rw [Int.natCast_emod, Int.natCast_add, Int.natCast_mul, Int.natCast_ediv]
              rfl
            have hm : (part + j * (30 / p)) % 30 < 30 := Nat.mod_lt _ (by decide)
            have bp : Bd 3 (p : Int) := by
              unfold Bd
              have := hp2.2.1
              show p < 8
              omega
            have b30 : Bd 5 (30 / (p : Int)) := bd30.div (by omega)
            have bj : Bd 3 (j : Int) := by
              unfold Bd
              show j < 8
              have := hp2.2.1
              omega
            refine ⟨_, rfl, _, rfl, _, rfl, _, rfl, _, _, rfl, rfl, bp.divOk (by omega), _, _, rfl, rfl, bj.mulOk b30, _, _, rfl, rfl, .inl ⟨_, rfl, _, _, rfl, rfl, (show (0 : Int) < 30 by decide), ?_⟩⟩
            have hz' : (fun i j : Int => V.int (i % j)) ((part : Int) + (j : Int) * (30 / (p : Int))) 30 = V.int (((part + j * (30 / p)) % 30 : Nat) : Int) := congrArg V.int hz
            rw [hz']
            refine ⟨kp, _, _, _, rfl, rfl, SqL_of hk4, get_map_int (by omega), _, rfl, _, _, rfl, rfl, kp, _, _, (part + j * (30 / p)) % 30, rfl, rfl, hk4, ?_, ?_⟩
            · unfold ixN
              rw [if_pos (by omega), if_pos (by rw [List.length_map]; omega)]
              rfl
            · refine ⟨_, rfl, Same.put nk s4, ?_, ts', ?_, htl'⟩
              · rw [upd_same]
                unfold subAt
                rw [List.map_set]
              · rw [upd_ne hkt.symm]
                exact hts'
          · obtain ⟨y6, rfl, s4, hk4, ts', hts', htl'⟩ := h
            have ep : (p : Int).toNat = p := by omega
            rw [ep] at hk4
            refine ⟨_, _, _, rfl, s4, ?_, ?_, ts', hts', htl'⟩
            · unfold takeP
              rw [if_neg h0]
              exact hk4
            · rw [takeP_len]
              exact hl2
      · obtain ⟨y4, y5, y6, rfl, hSt1⟩ := h
        obtain ⟨s2, hk2, hl2, ts, hts, htl⟩ := hSt1
        refine ⟨_, y4, y5, y6, rfl, s2, hk2, hl2, ts, hts, ?_⟩
        have : 30 / p ≤ 30 := Nat.div_le_self _ _
        omega
    · obtain ⟨y3, y4, y5, y6, rfl, s2, hk2, hl2, ts, hts, htl⟩ := h
      refine ⟨_, rfl, _, rfl, by show 2 ≤ sizeLine; decide, fun p np => ?_⟩
      have sp := same_upd (o := .tup [.ref kp, .ref tn]) np
      rw [show ([2, 3, 5].take ([V.int 2, V.int 3, V.int 5] : List V).length).foldl primeP r = keptL r from (keptL_eq r).symm] at hk2
      exact q _ p kp tn (s2.trans sp) upd_same nk (sp _ _ hk2)
end
end K31

set_option Elab.async false
set_option linter.all false
set_option maxRecDepth 100000
set_option maxHeartbeats 1000000
namespace K31
open PySem PySem.Spec PyProof.Rows L2
def keptF (ts : List Turn) : List (Turn × List Int) := (rowsD (cntD ts)).map fun e => (e.1, keptL e.2)
def formAt (f : List (Turn × List Int)) (part : Nat) (c : Turn) : Option (Turn × Int) := if ((aGet f c).getD []).getD part 0 = 0 then none else some (turnIn (part : Int) c, ((aGet f c).getD []).getD part 0)
def formIn (ts : List Turn) : List (Turn × Int) := (List.range 30).flatMap fun part => (inOrder ((keptF ts).map Prod.fst)).filterMap (formAt (keptF ts) part)
theorem inOrder_perm (ts : List Turn) : (inOrder ts).Perm ts := by
  unfold inOrder
  have h := (List.mergeSort_perm (ts.map fun t => (atB t (lcmAll (botts ts)), t)) (PySem.W.dataLe false dIT)).map Prod.snd
  rw [List.map_map] at h
  have e : (Prod.snd ∘ fun t : Turn => (atB t (lcmAll (botts ts)), t)) = id := rfl
  rw [e, List.map_id] at h
  exact h
theorem fm_take {α β : Type} {F : α → Option β} {l : List α} {i : Nat} {a : α} (h : l[i]? = some a) : (l.take (i + 1)).filterMap F = (l.take i).filterMap F ++ (match F a with | some b => [b] | none => []) := by
  rw [List.take_add_one, h, List.filterMap_append]
  show _ ++ List.filterMap F [a] = _
  cases e : F a <;> simp [e]
theorem fmap_range {β : Type} {F : Nat → List β} {i : Nat} : (List.range (i + 1)).flatMap F = (List.range i).flatMap F ++ F i := by
  rw [List.range_succ, List.flatMap_append]
  simp
theorem isKeys_turns {α : Type} {e : α → V} {H : Hp} : ∀ {g : List (Turn × α)} {bs : List Addr}, IsKeys H (enc e g) bs → Paired (rTurn H) (bs.map V.ref) (g.map Prod.fst)
  | [], _, h => by
    cases h
    exact .nil
  | x :: g, _, h => by
    have h' : Paired (fun (p : List Key × V) b => H b = some (.tup (p.1.map kV))) ((tk x.1, e x.2) :: enc e g) _ := h
    cases h' with
    | cons r t => exact .cons ⟨_, rfl, r⟩ (isKeys_turns (e := e) t)
theorem IsTurn.part {t : Turn} (h : IsTurn t) : 0 ≤ partOf t ∧ partOf t < 30 := by
  obtain ⟨h1, h2, h3, _⟩ := h
  refine ⟨Int.ediv_nonneg (by omega) (by omega), ?_⟩
  refine Int.ediv_lt_of_lt_mul h1 ?_
  omega
theorem dcOk_cnt {ts : List Turn} (hn : ts.length ≤ 3) (h : ∀ t ∈ ts, IsTurn t ∧ TOk 300 t) : DcOk (cntD ts) := by
  obtain ⟨k1, k2, k3, k4⟩ := cntD_ok ts
  refine ⟨by omega, fun p hp => ?_⟩
  have hm := (k3 p.1).mp (List.mem_map_of_mem hp)
  exact ⟨(h _ hm).2.mono (by decide), (h _ hm).1.part⟩
theorem rowsFold_keys : ∀ (d : List (Turn × Int)) (f : List (Turn × List Int)) (c : Turn), c ∈ (d.foldl stepR f).map Prod.fst ↔ (∃ p ∈ d, clsOf p.1 = c) ∨ c ∈ f.map Prod.fst
  | [], f, c => by simp
  | p :: d, f, c => by
    rw [List.foldl_cons, rowsFold_keys d]
    have e : c ∈ (stepR f p).map Prod.fst ↔ c = clsOf p.1 ∨ c ∈ f.map Prod.fst := by
      unfold stepR
      rw [setRow_keys]
      unfold addRow
      split
      · rename_i h
        exact ⟨.inr, fun z => z.elim (fun e => by rw [e]; exact h) id⟩
      · rw [List.map_append, List.mem_append]
        simp [or_comm]
    rw [e]
    constructor
    · rintro (⟨q, h1, h2⟩ | h | h)
      · exact .inl ⟨q, List.mem_cons_of_mem _ h1, h2⟩
      · exact .inl ⟨p, List.mem_cons_self, h.symm⟩
      · exact .inr h
    · rintro (⟨q, h1, h2⟩ | h)
      · rcases List.mem_cons.mp h1 with e | e
        · rw [e] at h2
          exact .inr (.inl h2.symm)
        · exact .inl ⟨q, e, h2⟩
      · exact .inr (.inr h)
theorem keptF_keys (ts : List Turn) : (keptF ts).map Prod.fst = (rowsD (cntD ts)).map Prod.fst := by
  unfold keptF
  rw [List.map_map]
  rfl
theorem keptF_nodup (ts : List Turn) : ((keptF ts).map Prod.fst).Nodup := by
  rw [keptF_keys]
  exact (rowsD_ok (cntD ts)).2.1
theorem keptF_len (ts : List Turn) : (keptF ts).length ≤ ts.length := by
  unfold keptF
  rw [List.length_map]
  have h1 := (rowsD_ok (cntD ts)).2.2
  have h2 := (cntD_ok ts).2.1
  omega
theorem keptF_mem {ts : List Turn} {c : Turn} : c ∈ (keptF ts).map Prod.fst ↔ ∃ t ∈ ts, clsOf t = c := by
  rw [keptF_keys]
  unfold rowsD
  rw [rowsFold_keys]
  constructor
  · rintro (⟨p, h1, h2⟩ | h)
    · exact ⟨p.1, ((cntD_ok ts).2.2.1 p.1).mp (List.mem_map_of_mem h1), h2⟩
    · simp at h
  · rintro ⟨t, h1, h2⟩
    obtain ⟨p, h3, h4⟩ := List.mem_map.mp (((cntD_ok ts).2.2.1 t).mpr h1)
    exact .inl ⟨p, h3, by rw [h4]; exact h2⟩
theorem keptF_full (ts : List Turn) : Full (keptF ts) := by
  intro e he
  unfold keptF at he
  obtain ⟨e0, h0, rfl⟩ := List.mem_map.mp he
  have h1 : ∀ e ∈ rowsD (cntD ts), e.2.length = 30 := (rowsD_ok (cntD ts)).1
  exact (keptL_len e0.2).trans (h1 e0 h0)
section
variable {P : Program} {w : World} {K : PySem.W.Frag} {mg : Str → Option Value} {base : Heap}
def sp_form_in : Sp := fun vs H Q _ => ∃ v1 v2 ts, vs = [v1, v2] ∧ rList rRoot H v1 (ts.map fun t => (t, (1 : Int))) ∧ rList rRoot H v2 [] ∧ ts.length ≤ 3 ∧ (∀ t ∈ ts, IsTurn t ∧ TOk 300 t) ∧
  ∀ H' v, Same H H' → NewL rRoot H H' v (formIn ts) → Q v H'
theorem df_form_in (T : Txt K mg) : Df P w K mg base 6 "form_in" ["roots", "other_roots"] sp_form_in := by
  have D_integers_by_turn := df_integers_by_turn (P := P) (w := w) (base := base) T
  have D_rows_by_class := df_rows_by_class (P := P) (w := w) (base := base) T
  have D_kept_row := df_kept_row (P := P) (w := w) (base := base) T
  have D_in_order := df_in_order (P := P) (w := w) (base := base) T
  have D_turn_in := df_turn_in (P := P) (w := w) (base := base) T
  refine Df.mk T.a_form_in sc_form_in (fun _ _ _ _ _ _ us hl => match us, hl with | [_, _], _ => rfl) (fun vs H Q E h => ?_) (fun f cdv A outer s H vs Q E hr h => ?_)
  · obtain ⟨_, _, _, rfl, _⟩ := h
    rfl
  · obtain ⟨v1, v2, ts, rfl, h1, h2, hn, ht, q⟩ := h
    refine ⟨_, (pss_cons (ps_setDcT (i := 2) (own := [("turn_class", 6), ("row", 7)]) (g := gTup K 2 (gCons (gName 6) (gCons (gName 7) gNil))) (tt := tYes) hr.units0 (by rfl) sc_form_in.nd rfl rfl (sw_dict rfl rfl rfl (by decide +kernel)) (pi_itemsT (pe_df D_rows_by_class hr (by decide) (by rfl) (pa_cons (pe_df D_integers_by_turn hr (by decide) (by rfl) (pa_cons (pv 0) (pa_cons (pv 1) pa_nil))) pa_nil))) (blkOk_by (own := [("turn_class", 6), ("row", 7)]) (N := ["roots", "other_roots", "rows", "found", "classes", "part", "turn_class", "row"]) (sc := defScope s_form_in) (by decide +kernel)) (fun _ _ _ _ _ => (pg_tup rfl (pgs_cons (pg_name (i := 6) sc_form_in.nd rfl (.inl rfl)) (pgs_cons (pg_name (i := 7) sc_form_in.nd rfl (.inl rfl)) pgs_nil)))) (fun _ _ _ _ _ => pts_nil) (fun _ _ _ _ _ => (pv 6)) (fun _ _ _ _ _ => (pe_ix (ix_tupK (K := K) rfl) (pe_df D_kept_row hr (by decide) (by rfl) (pa_cons (pv 7) pa_nil)) pe_int (fun _ _ => rfl))))
  (pss_cons (ps_set (i := 3) sc_form_in.nd rfl (.inl rfl) (pe_lst pa_nil))
  (pss_cons (ps_set (i := 4) sc_form_in.nd rfl (.inl rfl) (pe_df D_in_order hr (by decide) (by rfl) (pa_cons (pe_callTy (call_list_dT rfl) (by rfl) T.z_list bt_list (pa_cons (pv 2) pa_nil)) pa_nil)))
  (pss_cons (ps_for PassesOwn.never rfl (pi_range1 (by rfl) T.z_range (pa_cons T.g_PARTS pa_nil)) (pg_name (i := 5) sc_form_in.nd rfl (.inl rfl))
  (pss_one (ps_for PassesOwn.never rfl (pi_listK (K := K) rfl (pv 4)) (pg_name (i := 6) sc_form_in.nd rfl (.inl rfl))
  (pss_one (ps_if (pt_cmpR op_ne (pe_ix (ix_listK (K := K) rfl) (pe_dget (hu_of hr) (pv 2) (pv 6) (fun _ _ => rfl)) (pv 5) (fun _ _ => rfl)) pe_int (nomark _)) (pss_one (ps_expr (pe_bm PySem.F.plainAttrs_list PySem.F.slot_list_append PySem.F.type_list_append mt_append (pv 3) (pa_cons (pe_tup (pa_cons (pe_df D_turn_in hr (by decide) (by rfl) (pa_cons (pv 5) (pa_cons (pv 6) pa_nil))) (pa_cons (pe_ix (ix_listK (K := K) rfl) (pe_dget (hu_of hr) (pv 2) (pv 6) (fun _ _ => rfl)) (pv 5) (fun _ _ => rfl)) pa_nil))) pa_nil)))) pss_nil)))))
  (pss_one (ps_ret (pv 3))))))), ?_⟩
    refine ⟨_, rfl, _, rfl, v1, v2, ts, rfl, h1, h2, hn, fun H1 d s1 nd hd => ?_⟩
    have hdc := dcOk_cnt hn ht
    refine ⟨d, cntD ts, rfl, hd, hdc, fun H2 D g s2 nD hD hR hfr hnd => ⟨D, _, rfl, hD, fun od D2 nD2 => ?_⟩⟩
    have s12 : Same H H2 := fun b o e => s2 b o (ne_of_none e nd) (s1 b o e)
    have nDH : H D = none := s1.free nD
    have hkeys : g.map Prod.fst = (rowsD (cntD ts)).map Prod.fst := hR.keys
    have hglen : g.length = (rowsD (cntD ts)).length := PySem.Paired.length hR
    have hg3 : g.length ≤ 3 := by
      have h3 := (rowsD_ok (cntD ts)).2.2
      have h4 := hdc.1
      omega
    have n2 : H2 D2 = none ∧ D2 ≠ D := by
      by_cases e : D2 = D
      · rw [e, upd_same] at nD2
        cases nD2
      · rw [upd_ne e] at nD2
        exact ⟨nD2, e⟩
    -- rows = {turn_class: kept_row(row)[0] for ..}
    refine dcT_it walk_itemsT (fun i H3 => (∀ b o, b ≠ D → H2 b = some o → H3 b = some o) ∧ H3 D = some (.frz od (.dT (enc V.ref g))) ∧ ∃ g2, H3 D2 = some (.dT (enc V.ref g2)) ∧ Rws H3 g2 (((rowsD (cntD ts)).take i).map fun e => (e.1, keptL e.2))) ?_ (fun i H3 _ h => h.2.1) (fun i x H3 H3' hi h hy => ?_) (fun H3 h => ?_)
    · refine ⟨fun b o hb e => ?_, ?_, [], upd_same, .nil⟩
      · rw [upd_ne (ne_of_none e n2.1), upd_ne hb]
        exact e
      · rw [upd_ne n2.2.symm, upd_same]
    · obtain ⟨s3, gD, g2, hD2, hR2⟩ := h
      obtain ⟨p, k, v, b, hkv, hbk, rfl, np, rfl⟩ := hy
      obtain ⟨c, r, hcr, rfl, rfl⟩ := enc_get V.ref hkv
      obtain ⟨e, he, q1, q2⟩ := Paired.get hR hcr
      have sp := same_upd (o := .tup [.ref b, .ref r]) np
      have hrD : r ≠ D := ne_of q2 hD fun z => nomatch z
      have full := (rowsD_ok (cntD ts)).1 e (List.mem_of_getElem? he)
      refine ⟨p, _, rfl, SqT_of upd_same, rfl, _, _, rfl, _, _, rfl, rfl, rfl, yes_go ⟨_, rfl, _, rfl, r, e.2, rfl, sp _ _ (s3 _ _ hrD q2), full, fun H4 p4 kp tn s4 hp4 nkp hkp => ?_⟩⟩
      refine ⟨p4, _, _, _, rfl, rfl, SqT_of hp4, i0, ?_⟩
      have sA := sp.trans s4
      have hD24 := sA _ _ hD2
      have hcD2 : c ∉ g2.map Prod.fst := by
        rw [hR2.keys, List.map_map]
        have e1 : (Prod.fst ∘ fun e : Turn × List Int => (e.1, keptL e.2)) = Prod.fst := rfl
        rw [e1]
        intro hm
        have k1 := (rowsD_ok (cntD ts)).2.1
        have k1' : ((rowsD (cntD ts)).map Prod.fst).Nodup := k1
        have h5 : (rowsD (cntD ts)).map Prod.fst = ((rowsD (cntD ts)).take i).map Prod.fst ++ ((rowsD (cntD ts)).drop i).map Prod.fst := by
          rw [← List.map_append, List.take_append_drop]
        rw [h5] at k1'
        refine (List.nodup_append.mp k1').2.2 c hm c ?_ rfl
        rw [List.drop_eq_getElem_cons (List.getElem?_eq_some_iff.mp he).1, (List.getElem?_eq_some_iff.mp he).2, List.map_cons]
        have : c = e.1 := q1
        rw [this]
        exact List.mem_cons_self
      refine ⟨_, tk c, b, rfl, sA _ _ hbk, hD24, ?_, fun b' o hb' e' => ?_, ?_, g2 ++ [(c, kp)], ?_, ?_⟩
      · rw [enc_len, PySem.Paired.length hR2, List.length_map, List.length_take]
        exact Nat.lt_of_le_of_lt (show min i (rowsD (cntD ts)).length ≤ 3 by omega) (by decide)
      · rw [upd_ne (ne_of_none e' n2.1)]
        exact sA _ _ (s3 _ _ hb' e')
      · rw [upd_ne n2.2.symm]
        exact sA _ _ gD
      · rw [upd_same, put_enc, aPut_new kp hcD2]
      · rw [take_map_succ he]
        refine Paired.app (hR2.keep fun x _ ys ex => ?_) (.cons ⟨q1, ?_⟩ .nil)
        · rw [upd_ne (ne_of ex hD2 fun z => nomatch z)]
          exact sA _ _ ex
        · rw [upd_ne (ne_of hkp hD24 fun z => nomatch z)]
          exact hkp
    · obtain ⟨s3, gD, g2, hD2, hR2⟩ := h
      rw [enc_len, hglen, List.take_length] at hR2
      replace hR2 : Rws H3 g2 (keptF ts) := hR2
      have s13 : Same H H3 := fun b o e => s3 b o (ne_of_none e nDH) (s12 b o e)
      -- found = []
      refine ⟨Nat.zero_le _, fun o no => ?_⟩
      have so := same_upd (o := .lst []) no
      have hkl : (keptF ts).length ≤ 3 := Nat.le_trans (keptF_len ts) hn
      -- classes = in_order(list(rows))
      refine ⟨_, rfl, D2, _, rfl, .inl (so _ _ hD2), fun lp bs nlp hbs => ?_⟩
      have slp := same_upd (o := .lst (bs.map V.ref)) nlp
      have hcl0 : Paired (rTurn (upd (upd H3 o (.lst [])) lp (.lst (bs.map V.ref)))) (bs.map V.ref) ((keptF ts).map Prod.fst) := by
        rw [← hR2.keys]
        exact Paired.mono rTurn_mono slp (isKeys_turns hbs)
      refine ⟨_, (keptF ts).map Prod.fst, rfl, ⟨lp, _, rfl, upd_same, hcl0⟩, by rw [List.length_map]; exact hkl, fun c hc => ?_, fun H4 v4 s4 hN => ?_⟩
      · obtain ⟨t, ht1, rfl⟩ := keptF_mem.mp hc
        exact (clsOf_ok (ht t ht1).2).mono (by decide)
      obtain ⟨cp, cs, rfl, ncp, hcp, hcs⟩ := hN
      have sB : Same H3 H4 := (so.trans slp).trans s4
      have ho4 : H4 o = some (.lst []) := s4 _ _ (slp _ _ upd_same)
      have hD24 := sB _ _ hD2
      have hoD : o ≠ D2 := ne_of ho4 hD24 fun z => nomatch z
      have hoc : o ≠ cp := by
        have h6 : (upd (upd H3 o (.lst [])) lp (.lst (bs.map V.ref))) o = some (.lst []) := slp _ _ upd_same
        exact ne_of_none h6 ncp
      have nof : H o = none := s13.free no
      have hR4 : Rws H4 g2 (keptF ts) := hR2.keep fun x _ ys e => sB _ _ e
      have hk2 : (g2.map Prod.fst).Nodup := by
        rw [hR2.keys]
        exact keptF_nodup ts
      have hcslen : cs.length = (inOrder ((keptF ts).map Prod.fst)).length := PySem.Paired.length hcs
      have hio3 : (inOrder ((keptF ts).map Prod.fst)).length ≤ 3 := by
        rw [(inOrder_perm _).length_eq, List.length_map]
        exact hkl
      -- what holds in the loops
      let St : Hp → List (Turn × Int) → Prop := fun H' l => (∀ b u, b ≠ o → H4 b = some u → H' b = some u) ∧ ∃ zs, H' o = some (.lst zs) ∧ Paired (rRoot H') zs l
      refine ⟨30, rfl, by decide, by decide, for_it (walk_range (n := (30 : Int).toNat))
        (fun i σ H' => ∃ y5 y6 y7, σ = [some v1, some v2, some (.ref D2), some (.ref o), some (.ref cp), y5, y6, y7] ∧ St H' ((List.range i).flatMap fun part => (inOrder ((keptF ts).map Prod.fst)).filterMap (formAt (keptF ts) part)) ∧ ((List.range i).flatMap fun part => (inOrder ((keptF ts).map Prod.fst)).filterMap (formAt (keptF ts) part)).length ≤ 3 * i)
        ⟨_, _, _, rfl, ⟨fun b u _ e => e, [], ho4, .nil⟩, Nat.le_refl _⟩ (fun _ _ _ _ _ => trivial) (fun i x σ H5 H5' hi h hy => ?_) (fun σ H5 h => ?_)⟩
      · obtain ⟨y5, y6, y7, rfl, ⟨s5, zs, hzs, hpz⟩, hlen⟩ := h
        obtain ⟨rfl, hxv⟩ := hy
        obtain rfl : x = .int (i : Int) := by
          rw [hxv]
          show V.int (0 + (i : Int)) = V.int (i : Int)
          rw [Int.zero_add]
        rw [fmap_range]
        generalize ((List.range i).flatMap fun part => (inOrder ((keptF ts).map Prod.fst)).filterMap (formAt (keptF ts) part)) = l0 at hpz hlen ⊢
        have hi30 : i < 30 := hi
        refine ⟨_, rfl, cp, rfl, ⟨cs, SqL_of (s5 _ _ hoc.symm hcp)⟩, for_it (walk_list (xs := cs))
          (fun j σ H' => ∃ y6 y7, σ = [some v1, some v2, some (.ref D2), some (.ref o), some (.ref cp), some (.int (i : Int)), y6, y7] ∧ St H' (l0 ++ ((inOrder ((keptF ts).map Prod.fst)).take j).filterMap (formAt (keptF ts) i)) ∧ (l0 ++ ((inOrder ((keptF ts).map Prod.fst)).take j).filterMap (formAt (keptF ts) i)).length ≤ 3 * i + j)
          ⟨y6, y7, rfl, ⟨s5, zs, hzs, by simpa using hpz⟩, by simpa using hlen⟩ (fun j σ H' _ h => ?_) (fun j x σ H6 H6' hj h hy => ?_) (fun σ H6 h => ?_)⟩
        · obtain ⟨_, _, _, ⟨s6, _⟩, _⟩ := h
          exact SqL_of (s6 _ _ hoc.symm hcp)
        · obtain ⟨y6, y7, rfl, ⟨s6, zs6, hzs6, hpz6⟩, hlen6⟩ := h
          obtain ⟨rfl, hx⟩ := hy
          obtain ⟨c, hc, qa, rfl, hqa⟩ := Paired.get hcs hx
          have hqo : qa ≠ o := ne_of hqa ho4 fun z => nomatch z
          have hqa6 := s6 _ _ hqo hqa
          have hD26 := s6 _ _ hoD.symm hD24
          have hcm : c ∈ (keptF ts).map Prod.fst := (inOrder_perm _).mem_iff.mp (List.mem_of_getElem? hc)
          have hcg : c ∈ g2.map Prod.fst := by
            rw [hR2.keys]
            exact hcm
          obtain ⟨r, hgr⟩ := Option.isSome_iff_exists.mp (show (aGet g2 c).isSome = true by rw [aGet_isSome, decide_eq_true hcg])
          obtain ⟨jj, hjj⟩ := List.mem_iff_getElem?.mp (aGet_mem hgr)
          obtain ⟨e, he, q1, q2⟩ := Paired.get hR4 hjj
          have hem : (c, e.2) ∈ keptF ts := by
            have : c = e.1 := q1
            rw [this]
            exact List.mem_of_getElem? he
          have hrow : aGet (keptF ts) c = some e.2 := aGet_of_mem (keptF_nodup ts) hem
          have hfull : e.2.length = 30 := keptF_full ts e (List.mem_of_getElem? he)
          have hro : r ≠ o := by
            intro z
            have h7 := hR2.there _ (aGet_mem hgr)
            obtain ⟨ys, hys⟩ := h7
            rw [show ((c, r) : Turn × Addr).2 = o from z] at hys
            rw [no] at hys
            cases hys
          have hr6 := s6 _ _ hro q2
          have hget : DGet H6' D2 (.ref qa) (some (.ref r)) := by
            have h8 := DGet.t hD26 (b := qa) (k := tk c) hqa6
            rw [val_enc, hgr] at h8
            exact h8
          have hat := get_map_int (r := e.2) (j := i) (by omega)
          rw [fm_take hc]
          have hF : formAt (keptF ts) i c = if e.2.getD i 0 = 0 then none else some (turnIn (i : Int) c, e.2.getD i 0) := by
            unfold formAt
            rw [hrow]
            rfl
          rw [hF]
          refine ⟨_, rfl, _, rfl, D2, _, rfl, hget, _, rfl, r, _, _, _, rfl, rfl, SqL_of hr6, atI_nat hat, rfl, _, rfl, ?_⟩
          by_cases h0 : e.2.getD i 0 = 0
          · rw [decide_eq_true (congrArg V.int h0), if_pos h0]
            refine iteF ⟨_, _, rfl, ⟨s6, zs6, hzs6, by simpa using hpz6⟩, by simp at hlen6 ⊢; omega⟩
          · rw [decide_eq_false fun z => h0 (V.int.inj z), if_neg h0]
            refine iteT ?_
            have hct : TOk 1500 c := by
              obtain ⟨t, ht1, rfl⟩ := keptF_mem.mp hcm
              exact (clsOf_ok (ht t ht1).2).mono (by decide)
            have bi : Bd 20 (i : Int) := by
              unfold Bd
              show i < 1048576
              omega
            refine ⟨_, rfl, .inl ⟨rfl, _, SqL_of hzs6⟩, _, rfl, _, rfl, _, _, c, rfl, ⟨qa, rfl, hqa6⟩, bi, hct, fun H7 v7 s7 r7 => ?_⟩
            have hget7 : DGet H7 D2 (.ref qa) (some (.ref r)) := by
              have h8 := DGet.t (s7 _ _ hD26) (b := qa) (k := tk c) (s7 _ _ hqa6)
              rw [val_enc, hgr] at h8
              exact h8
            refine ⟨_, rfl, _, rfl, D2, _, rfl, hget7, _, rfl, r, _, _, _, rfl, rfl, SqL_of (s7 _ _ hr6), atI_nat hat, by show 2 ≤ sizeLine; decide, fun t nt => ?_⟩
            have stt := same_upd (o := .tup [v7, .int (e.2.getD i 0)]) nt
            have hzo := stt _ _ (s7 _ _ hzs6)
            have tso : TSame (upd H7 t (.tup [v7, .int (e.2.getD i 0)])) (upd (upd H7 t (.tup [v7, .int (e.2.getD i 0)])) o (.lst (zs6 ++ [.ref t]))) := .lst hzo
            refine ⟨o, _, _, rfl, rfl, hzo, ?_, _, _, rfl, ⟨fun b u hb eb => ?_, zs6 ++ [.ref t], upd_same, ?_⟩, ?_⟩
            · rw [PySem.Paired.length hpz6]
              exact small200 (by omega)
            · rw [upd_ne hb]
              exact stt _ _ (s7 _ _ (s6 _ _ hb eb))
            · rw [← List.append_assoc]
              refine Paired.app (Paired.tm rRoot_tm ((TSame.of (s7.trans stt)).trans tso) hpz6) (.cons ⟨t, _, _, rfl, ?_, rTurn_tm.go ((TSame.of stt).trans tso) r7, rfl⟩ .nil)
              exact tso _ _ upd_same
            · simp at hlen6 ⊢
              omega
        · obtain ⟨y6, y7, rfl, hSt, hlen6⟩ := h
          rw [hcslen, List.take_length] at hSt hlen6
          refine ⟨_, _, _, rfl, hSt, ?_⟩
          omega
      · obtain ⟨y5, y6, y7, rfl, ⟨s5, zs, hzs, hpz⟩, hlen⟩ := h
        refine ⟨_, rfl, q H5 _ (fun b u e => s5 b u (ne_of_none e nof) (sB _ _ (s13 _ _ e))) ⟨o, zs, rfl, nof, hzs, hpz⟩⟩
end
end K31

set_option Elab.async false
set_option linter.all false
set_option maxRecDepth 100000
set_option maxHeartbeats 1000000
namespace K31
open PySem PySem.Spec PyProof.Rows L2
def wrRow (x : Str × List Turn) : Option (Str × List (Turn × Int)) := if formIn x.2 = [] then none else some (x.1, formIn x.2)
def writtenIn (p : Pl) : Wr := p.filterMap wrRow
abbrev rWrow : Rp (Str × List (Turn × Int)) := rPair rStr (rTupL rRoot)
theorem rWrow_tm : TM rWrow := rPair_tm rStr_tm (rTupL_tm rRoot_tm)
theorem dp_wr {K : PySem.W.Frag} {H : Hp} {v : V} {l : Wr} (h : rTupL rWrow H v l) : Dp K H v (dWr l) := dp_tupl (f := dWrow) (fun h => dp_pair (f := .str) (g := dForm) dp_str (fun h => dp_tupl (f := dRoot) dp_root h) h) h
/-- a place as the written ones ask it -/
def WrOk (p : Pl) : Prop := p.length ≤ 100 ∧ ∀ x ∈ p, IsName x.1 ∧ x.2.length ≤ 3 ∧ ∀ t ∈ x.2, IsTurn t ∧ TOk 300 t
theorem writtenIn_ok {p : Pl} (h : WrOk p) : ∀ x ∈ writtenIn p, okS x.1 ∧ ∀ y ∈ x.2, (True ∧ True) ∧ True := fun x hx => by
  obtain ⟨y, h1, h2⟩ := List.mem_filterMap.mp hx
  refine ⟨?_, fun _ _ => ⟨⟨trivial, trivial⟩, trivial⟩⟩
  unfold wrRow at h2
  split at h2
  · cases h2
  · rw [← Option.some.inj h2]
    exact okS_name (h.2 y h1).1
section
variable {P : Program} {w : World} {K : PySem.W.Frag} {mg : Str → Option Value} {base : Heap}
def sp_written_in : Sp := fun vs H Q _ => ∃ v p, vs = [v] ∧ rPlace H v p ∧ WrOk p ∧ ∀ H' v', Same H H' → rTupL rWrow H' v' (writtenIn p) → Q v' H'
theorem df_written_in (T : Txt K mg) : Df P w K mg base 7 "written_in" ["place"] sp_written_in := by
  have D_form_in := df_form_in (P := P) (w := w) (base := base) T
  refine Df.mk T.a_written_in sc_written_in (fun _ _ _ _ _ _ us hl => match us, hl with | [_], _ => rfl) (fun vs H Q E h => ?_) (fun f cdv A outer s H vs Q E hr h => ?_)
  · obtain ⟨_, _, rfl, _⟩ := h
    rfl
  · obtain ⟨_, pl, rfl, ⟨a, xs, rfl, ha, hp⟩, ⟨hn, hok⟩, q⟩ := h
    refine ⟨_, (pss_cons (ps_set (i := 1) sc_written_in.nd rfl (.inl rfl) (pe_lst pa_nil))
  (pss_cons (ps_for PassesOwn.never rfl (pi_listK (K := K) rfl (pv 0)) (pg_tup rfl (pgs_cons (pg_name (i := 2) sc_written_in.nd rfl (.inl rfl)) (pgs_cons (pg_name (i := 3) sc_written_in.nd rfl (.inl rfl)) pgs_nil)))
  (pss_cons (ps_set (i := 4) sc_written_in.nd rfl (.inl rfl) (pe_df D_form_in hr (by decide) (by rfl) (pa_cons (pe_lc (own := [("turn", 5)]) (g := gName 5) (tt := tYes) (by rfl) sc_written_in.nd (pi_listK (K := K) rfl (pv 3)) (blkOk_by (own := [("turn", 5)]) (N := ["place", "found", "name", "turns", "told", "turn"]) (sc := defScope s_written_in) (by decide +kernel)) (fun _ _ _ _ _ => (pg_name (i := 5) sc_written_in.nd rfl (.inl rfl))) (fun _ _ _ _ _ => pts_nil) (fun _ _ _ _ _ => (pe_tup (pa_cons (pv 5) (pa_cons pe_int pa_nil))))) (pa_cons (pe_lst pa_nil) pa_nil))))
  (pss_one (ps_if (pt_cmpR (op_neD hr.units) (pv 4) (pe_lst pa_nil) (nomark _)) (pss_one (ps_expr (pe_bm PySem.F.plainAttrs_list PySem.F.slot_list_append PySem.F.type_list_append mt_append (pv 1) (pa_cons (pe_tup (pa_cons (pv 2) (pa_cons (pe_callTy call_tuple_of (by rfl) T.z_tuple bt_tuple (pa_cons (pv 4) pa_nil)) pa_nil))) pa_nil)))) pss_nil))))
  (pss_one (ps_ret (pe_callTy call_tuple_of (by rfl) T.z_tuple bt_tuple (pa_cons (pv 1) pa_nil)))))), ?_⟩
    have hl : xs.length = pl.length := PySem.Paired.length hp
    refine ⟨Nat.zero_le _, fun o no => ?_⟩
    have so := same_upd (o := .lst []) no
    refine ⟨_, rfl, a, rfl, ⟨xs, SqL_of (so _ _ ha)⟩, for_it (walk_list (xs := xs))
      (fun i σ H' => ∃ y2 y3 y4 y5, σ = [some (.ref a), some (.ref o), y2, y3, y4, y5] ∧ Same H H' ∧ ∃ zs, H' o = some (.lst zs) ∧ zs.length ≤ i ∧ Paired (rWrow H') zs ((pl.take i).filterMap wrRow))
      ⟨none, none, none, none, rfl, so, [], upd_same, Nat.le_refl _, .nil⟩ (fun i σ H' _ h => ?_) (fun i x σ H1 H1' hi h hy => ?_) (fun σ H1 h => ?_)⟩
    · obtain ⟨_, _, _, _, _, s1, _⟩ := h
      exact SqL_of (s1 _ _ ha)
    · obtain ⟨y2, y3, y4, y5, rfl, s1, zs, hzs, hlz, hpz⟩ := h
      obtain ⟨rfl, hx⟩ := hy
      obtain ⟨row, hrw, p, x1, x2, rfl, hp1, r1, b, ws, rfl, hbl, hpw⟩ := Paired.get hp hx
      obtain rfl : x1 = .str row.1 := r1
      obtain ⟨hnm, hlen3, htk⟩ := hok row (List.mem_of_getElem? hrw)
      have hlw : ws.length = row.2.length := PySem.Paired.length hpw
      have hb1 := s1 _ _ hbl
      refine ⟨p, _, rfl, SqT_of (s1 _ _ hp1), rfl, _, _, rfl, _, _, rfl, rfl, ?_⟩
      -- told = form_in([(turn, 1) for turn in turns], [])
      refine ⟨_, rfl, b, rfl, ⟨ws, SqL_of hb1⟩, fun D2 hD2 => lc_fm (walk_list (K := K) (a := b) (xs := ws)) rRoot_tm (fun j => row.2[j]?.map fun t => (t, (1 : Int))) (small3 (by omega)) hD2 (fun H' s' => SqL_of (s' _ _ hb1)) (fun j x H2 H2' hj s2 hy2 Qe Ne hq hne => ?_) (fun H2 s2 hL => ?_)⟩
      · obtain ⟨rfl, hx2⟩ := hy2
        obtain ⟨t, ht1, rt⟩ := Paired.get hpw hx2
        refine ⟨rfl, yes_go ⟨_, rfl, by show 2 ≤ sizeLine; decide, fun c nc => hq _ _ (t, 1) (same_upd nc) (by rw [ht1]; rfl) ⟨c, _, _, rfl, upd_same, ?_, rfl⟩⟩⟩
        exact rTurn_mono.go ((s1.trans s2).trans (same_upd nc)) rt
      · rw [hlw, fm_map] at hL
        refine ⟨Nat.zero_le _, fun e ne => ?_⟩
        have se := same_upd (o := .lst []) ne
        refine ⟨_, _, row.2, rfl, (rList_mono rRoot_tm.mono).go se hL.list, ⟨e, [], rfl, upd_same, .nil⟩, hlen3, htk, fun H3 v3 s3 hN => ?_⟩
        obtain ⟨tp, tz, rfl, ntp, htp, hpt⟩ := hN
        have sA : Same H1' H3 := (s2.trans se).trans s3
        -- if told != []
        refine ⟨_, rfl, Nat.zero_le _, fun e2 ne2 => ?_⟩
        have s4 := same_upd (o := .lst []) ne2
        have d1 : Dp K (upd H3 e2 (.lst [])) (.ref tp) (dRoots (formIn row.2)) := dp_list (f := dRoot) dp_root ⟨tp, tz, rfl, s4 _ _ htp, Paired.tm rRoot_tm (.of s4) hpt⟩
        have d2 : Dp K (upd H3 e2 (.lst [])) (.ref e2) (dRoots []) := .lst (SqL_of upd_same) .nil
        refine cmp_ne fa_roots (by decide) d1 d2 (fun _ _ => ⟨⟨trivial, trivial⟩, trivial⟩) (fun _ _ => ⟨⟨trivial, trivial⟩, trivial⟩) ⟨_, rfl, ?_⟩
        rw [fm_take hrw]
        by_cases h0 : formIn row.2 = []
        · rw [decide_eq_true h0]
          refine iteF ⟨_, _, _, _, rfl, (s1.trans sA).trans s4, zs, s4 _ _ (sA _ _ hzs), by omega, ?_⟩
          have hw0 : wrRow row = none := by
            unfold wrRow
            rw [if_pos h0]
          rw [hw0]
          simp only [List.append_nil]
          exact Paired.tm rWrow_tm (.of (sA.trans s4)) hpz
        · rw [decide_eq_false h0]
          refine iteT ?_
          have hw0 : wrRow row = some (row.1, formIn row.2) := by
            unfold wrRow
            rw [if_neg h0]
          rw [hw0]
          have hzo := s4 _ _ (sA _ _ hzs)
          refine ⟨_, rfl, .inl ⟨rfl, _, SqL_of hzo⟩, _, rfl, _, rfl, tp, tz, rfl, .inl ⟨SqL_of (s4 _ _ htp), fun tt ntt => ?_⟩⟩
          have s5 := same_upd (o := .tup tz) ntt
          refine ⟨by show 2 ≤ sizeLine; decide, fun c nc => ?_⟩
          have s6 := same_upd (o := .tup [.str row.1, .ref tt]) nc
          have sB := (sA.trans s4).trans (s5.trans s6)
          have hzo2 := (s5.trans s6) _ _ hzo
          have tso : TSame (upd (upd (upd H3 e2 (.lst [])) tt (.tup tz)) c (.tup [.str row.1, .ref tt])) (upd (upd (upd (upd H3 e2 (.lst [])) tt (.tup tz)) c (.tup [.str row.1, .ref tt])) o (.lst (zs ++ [.ref c]))) := .lst hzo2
          refine ⟨o, _, _, rfl, rfl, hzo2, small200 (by omega), _, _, _, _, rfl, Same.put no (s1.trans sB), zs ++ [.ref c], upd_same, by rw [List.length_append, List.length_singleton]; omega, ?_⟩
          refine Paired.app (Paired.tm rWrow_tm ((TSame.of sB).trans tso) hpz) (.cons ⟨c, _, _, rfl, tso _ _ upd_same, rfl, tt, tz, rfl, tso _ _ (s6 _ _ upd_same), ?_⟩ .nil)
          exact Paired.tm rRoot_tm ((TSame.of ((s4.trans s5).trans s6)).trans tso) hpt
    · obtain ⟨y2, y3, y4, y5, rfl, s1, zs, hzs, hlz, hpz⟩ := h
      rw [hl, List.take_length] at hpz
      refine ⟨_, rfl, o, zs, rfl, .inl ⟨SqL_of hzs, fun tt ntt => ?_⟩⟩
      have s5 := same_upd (o := .tup zs) ntt
      exact q _ _ (s1.trans s5) ⟨tt, zs, rfl, upd_same, Paired.tm rWrow_tm (.of s5) hpz⟩
def sp_written : Sp := fun vs H Q _ => ∃ v p, vs = [v] ∧ rPlace H v p ∧ IsPl p ∧ WrOk p ∧ ∀ H' v', Same H H' → rTupL rWrow H' v' (writtenIn p) → Q v' H'
theorem df_written (T : Txt K mg) : Df P w K mg base 9 "written" ["place"] sp_written := by
  have D_check_place := df_check_place (P := P) (w := w) (base := base) T
  have D_written_in := df_written_in (P := P) (w := w) (base := base) T
  refine Df.mk T.a_written sc_written (fun _ _ _ _ _ _ us hl => match us, hl with | [_], _ => rfl) (fun vs H Q E h => ?_) (fun f cdv A outer s H vs Q E hr h => ?_)
  · obtain ⟨_, _, rfl, _⟩ := h
    rfl
  · obtain ⟨_, p, rfl, h1, ip, wp, q⟩ := h
    refine ⟨_, (pss_cons (ps_expr (pe_df D_check_place hr (by decide) (by rfl) (pa_cons (pv 0) pa_nil)))
  (pss_one (ps_ret (pe_df D_written_in hr (by decide) (by rfl) (pa_cons (pv 0) pa_nil))))), ?_⟩
    refine ⟨_, rfl, _, p, rfl, h1, ip, fun H1 s1 => ?_⟩
    exact ⟨_, rfl, _, p, rfl, rPlace_mono.go s1 h1, wp, fun H2 v2 s2 r2 => q _ _ (s1.trans s2) r2⟩
def sp_same : Sp := fun vs H Q _ => ∃ v1 v2 p1 p2, vs = [v1, v2] ∧ rPlace H v1 p1 ∧ rPlace H v2 p2 ∧ IsPl p1 ∧ WrOk p1 ∧ IsPl p2 ∧ WrOk p2 ∧ ∀ H', Same H H' → Q (.bl (decide (writtenIn p1 = writtenIn p2))) H'
theorem df_same (T : Txt K mg) : Df P w K mg base 9 "same" ["place", "other_place"] sp_same := by
  have D_check_place := df_check_place (P := P) (w := w) (base := base) T
  have D_written_in := df_written_in (P := P) (w := w) (base := base) T
  refine Df.mk T.a_same sc_same (fun _ _ _ _ _ _ us hl => match us, hl with | [_, _], _ => rfl) (fun vs H Q E h => ?_) (fun f cdv A outer s H vs Q E hr h => ?_)
  · obtain ⟨_, _, _, _, rfl, _⟩ := h
    rfl
  · obtain ⟨_, _, p1, p2, rfl, h1, h2, ip1, wp1, ip2, wp2, q⟩ := h
    refine ⟨_, (pss_cons (ps_expr (pe_df D_check_place hr (by decide) (by rfl) (pa_cons (pv 0) pa_nil)))
  (pss_cons (ps_expr (pe_df D_check_place hr (by decide) (by rfl) (pa_cons (pv 1) pa_nil)))
  (pss_one (ps_ret (pe_cmpR (op_eqD hr.units) (pe_df D_written_in hr (by decide) (by rfl) (pa_cons (pv 0) pa_nil)) (pe_df D_written_in hr (by decide) (by rfl) (pa_cons (pv 1) pa_nil)) (nomark _)))))), ?_⟩
    refine ⟨_, rfl, _, p1, rfl, h1, ip1, fun H1 s1 => ?_⟩
    refine ⟨_, rfl, _, p2, rfl, rPlace_mono.go s1 h2, ip2, fun H2 s2 => ?_⟩
    have s12 := s1.trans s2
    refine ⟨_, rfl, _, p1, rfl, rPlace_mono.go s12 h1, wp1, fun H3 v3 s3 r3 => ?_⟩
    refine ⟨_, rfl, _, p2, rfl, rPlace_mono.go (s12.trans s3) h2, wp2, fun H4 v4 s4 r4 => ?_⟩
    exact cmp_eq fa_wr (by decide) (dp_wr ((rTupL_tm rWrow_tm).mono.go s4 r3)) (dp_wr r4) (writtenIn_ok wp1) (writtenIn_ok wp2) (q _ ((s12.trans s3).trans s4))
end
end K31

set_option Elab.async false
set_option linter.all false
set_option maxRecDepth 100000
set_option maxHeartbeats 1000000
namespace K31
open PySem PySem.Spec PyProof.Rows L2
/-! ### Euclid's steps are few -/
theorem euclid_step {X Y k : Nat} (h0 : Y ≠ 0) (hlt : Y < X) (h : X * Y * 2 ^ k < 2 ^ 1400) : X % Y < Y ∧ Y * (X % Y) * 2 ^ (k + 1) < 2 ^ 1400 := by
  have hr : X % Y < Y := Nat.mod_lt _ (by omega)
  refine ⟨hr, ?_⟩
  have e := Nat.div_add_mod X Y
  have hq : 1 ≤ X / Y := Nat.div_pos (by omega) (by omega)
  have h1 : Y * 1 ≤ Y * (X / Y) := Nat.mul_le_mul_left Y hq
  have h2 : Y + X % Y ≤ X := by omega
  have h3 : (Y + X % Y) * Y ≤ X * Y := Nat.mul_le_mul_right Y h2
  have h4 : X % Y * Y ≤ Y * Y := Nat.mul_le_mul_right Y (by omega)
  rw [Nat.add_mul] at h3
  have h5 : Y * (X % Y) * 2 ≤ X * Y := by
    rw [Nat.mul_comm Y (X % Y)]
    omega
  have h6 : Y * (X % Y) * 2 * 2 ^ k ≤ X * Y * 2 ^ k := Nat.mul_le_mul_right _ h5
  rw [Nat.pow_succ, Nat.mul_comm (2 ^ k) 2, ← Nat.mul_assoc]
  omega
theorem euclid_first {a b : Nat} (h0 : b ≠ 0) (h : b < 2 ^ 700) : a % b < b ∧ b * (a % b) * 2 ^ 0 < 2 ^ 1400 := by
  have hr : a % b < b := Nat.mod_lt _ (by omega)
  refine ⟨hr, ?_⟩
  rw [Nat.pow_zero, Nat.mul_one, show 1400 = 700 + 700 from rfl, Nat.pow_add]
  exact Nat.mul_lt_mul'' h (by omega)
theorem euclid_end {X Y : Nat} (hlt : Y < X) (h : X * Y * 2 ^ 1499 < 2 ^ 1400) : Y = 0 := by
  by_cases h0 : Y = 0
  · exact h0
  · exfalso
    have h1 : 1 ≤ X * Y := Nat.mul_pos (by omega) (by omega)
    have h2 : 1 * 2 ^ 1499 ≤ X * Y * 2 ^ 1499 := Nat.mul_le_mul_right _ h1
    have h3 : (2 : Nat) ^ 1400 ≤ 2 ^ 1499 := Nat.pow_le_pow_right (by decide) (by decide)
    omega
section
variable {P : Program} {w : World} {K : PySem.W.Frag} {mg : Str → Option Value} {base : Heap}
def sp_law_common : Sp := fun vs H Q _ => ∃ a b : Nat, vs = [.int (a : Int), .int (b : Int)] ∧ b < 2 ^ 700 ∧ Q (.int (Nat.gcd a b : Nat)) H
theorem df__law_common (T : Txt K mg) : Df P w K mg base 1 "_law_common" ["_law_one", "_law_other"] sp_law_common := by
  refine Df.mk T.a__law_common sc__law_common (fun _ _ _ _ _ _ us hl => match us, hl with | [_, _], _ => rfl) (fun vs H Q E h => ?_) (fun f cdv A outer s H vs Q E hr h => ?_)
  · obtain ⟨_, _, rfl, _⟩ := h
    rfl
  · obtain ⟨a, b, rfl, hb, q⟩ := h
    refine ⟨_, (pss_cons (ps_for PassesOwn.never rfl (pi_range1 (by rfl) T.z_range (pa_cons pe_int pa_nil)) (pg_name (i := 2) sc__law_common.nd rfl (.inl rfl))
  (pss_cons (ps_if (pt_cmpR op_eq (pv 1) pe_int (nomark _)) (pss_one (ps_ret (pv 0))) pss_nil)
  (pss_cons (ps_set (i := 3) sc__law_common.nd rfl (.inl rfl) (pe_op op_mod (pe_callTy call_int1 (by rfl) T.z_int bt_int (pa_cons (pv 0) pa_nil)) (pv 1)))
  (pss_cons (ps_set (i := 0) sc__law_common.nd rfl (.inl rfl) (pv 1))
  (pss_one (ps_set (i := 1) sc__law_common.nd rfl (.inl rfl) (pv 3)))))))
  (pss_one (ps_ret (pv 0)))), ?_⟩
    have n1500 : (1500 : Int).toNat = 1500 := rfl
    refine ⟨1500, rfl, by decide, by decide, for_it (walk_range (n := (1500 : Int).toNat))
      (fun i σ H' => ∃ X Y : Nat, ∃ y2 y3, σ = [some (.int (X : Int)), some (.int (Y : Int)), y2, y3] ∧ H' = H ∧ Nat.gcd X Y = Nat.gcd a b ∧ ((i = 0 ∧ Y = b) ∨ (1 ≤ i ∧ Y < X ∧ X * Y * 2 ^ (i - 1) < 2 ^ 1400)))
      ⟨a, b, none, none, rfl, rfl, rfl, .inl ⟨rfl, rfl⟩⟩ (fun _ _ _ _ _ => trivial) (fun i x σ H1 H1' hi h hy => ?_) (fun σ H1 h => ?_)⟩
    · obtain ⟨X, Y, y2, y3, rfl, rfl, hg, hc⟩ := h
      obtain ⟨rfl, hxv⟩ := hy
      refine ⟨_, rfl, rfl, _, rfl, ite2 (fun h => ?_) (fun h => ?_)⟩
      · have h0 : Y = 0 := by
          have := V.int.inj (of_decide_eq_true h)
          omega
        subst h0
        refine ⟨_, rfl, ?_⟩
        have e : X = Nat.gcd a b := by rw [← hg, Nat.gcd_zero_right]
        show Q (.int (X : Int)) _
        rw [e]
        exact q
      · have h0 : Y ≠ 0 := fun z => h (decide_eq_true (by rw [z]; rfl))
        refine ⟨_, rfl, .inl ⟨_, rfl, _, rfl, _, _, rfl, rfl, (by omega : (0 : Int) < (Y : Int)), _, rfl, _, rfl, ?_⟩⟩
        have hg2 : Nat.gcd Y (X % Y) = Nat.gcd a b := by
          rw [Nat.gcd_comm, ← Nat.gcd_rec, Nat.gcd_comm]
          exact hg
        refine ⟨Y, X % Y, _, _, rfl, rfl, hg2, .inr ?_⟩
        rcases hc with ⟨rfl, rfl⟩ | ⟨h1, h2, h3⟩
        · exact ⟨by omega, euclid_first h0 hb⟩
        · obtain ⟨k1, k2⟩ := euclid_step h0 h2 h3
          refine ⟨by omega, k1, ?_⟩
          have : i + 1 - 1 = i - 1 + 1 := by omega
          rw [this]
          exact k2
    · obtain ⟨X, Y, y2, y3, rfl, rfl, hg, hc⟩ := h
      rcases hc with ⟨h0, _⟩ | ⟨h1, h2, h3⟩
      · rw [n1500] at h0
        omega
      · rw [n1500] at h3
        have h0 := euclid_end h2 h3
        subst h0
        have e : X = Nat.gcd a b := by rw [← hg, Nat.gcd_zero_right]
        refine ⟨_, rfl, ?_⟩
        show Q (.int (X : Int)) _
        rw [e]
        exact q
end
end K31

set_option Elab.async false
set_option linter.all false
set_option maxRecDepth 100000
set_option maxHeartbeats 1000000
namespace K31
open PySem PySem.Spec PyProof.Rows L2
theorem abs_nat (a : Int) : (if a < 0 then -a else a) = (a.natAbs : Int) := by split <;> omega
theorem pos_nat {b : Int} (h : 0 < b) : b = (b.natAbs : Int) := by omega
theorem lawLeft_ok {k : Nat} {a b : Int} (hb : 0 < b) (h : Bd k b) : TOk k (lawLeft a b) := by
  refine fracOf_ok hb ?_ h
  have h1 := Int.emod_nonneg a (show b ≠ 0 by omega)
  have h2 := Int.emod_lt_of_pos a hb
  exact h.le h1 (by omega)
theorem lawSum_ok {k : Nat} {x y : Turn} (h : TOk k x) (g : TOk k y) : TOk (k + k) (lawSum x y) := lawLeft_ok (Int.mul_pos h.1 g.1) (h.2.2.mul g.2.2)
theorem lawMinus_ok {k : Nat} {x : Turn} (h : TOk k x) : TOk k (lawMinus x) := lawLeft_ok h.1 h.2.2
theorem lcmI_pos {a b : Int} (ha : 0 < a) (hb : 0 < b) : 0 < lcmI a b := by
  have hg := gcd_pos (a := a) hb
  have hd := Int.gcd_dvd_left a b
  have e := Int.ediv_mul_cancel hd
  have h0 : 0 < a / (Int.gcd a b : Int) := by
    have h1 : 0 ≤ a / (Int.gcd a b : Int) := Int.ediv_nonneg (by omega) (by omega)
    by_cases z : a / (Int.gcd a b : Int) = 0
    · rw [z] at e
      omega
    · omega
  exact Int.mul_pos h0 hb
theorem lcmFold_pos : ∀ (ns : List Int) (z : Int), 0 < z → (∀ n ∈ ns, 0 < n) → 0 < ns.foldl lcmI z
  | [], z, h, _ => h
  | n :: ns, z, h, hn => lcmFold_pos ns _ (lcmI_pos h (hn n List.mem_cons_self)) fun m hm => hn m (List.mem_cons_of_mem _ hm)
section
variable {P : Program} {w : World} {K : PySem.W.Frag} {mg : Str → Option Value} {base : Heap}
def sp_lf (f : Int → Int → Turn) : Sp := fun vs H Q _ => ∃ a b : Int, vs = [.int a, .int b] ∧ 0 < b ∧ Bd 700 b ∧ ∀ H' v, Same H H' → rTurn H' v (f a b) → Q v H'
theorem df__law_fraction (T : Txt K mg) : Df P w K mg base 2 "_law_fraction" ["_law_top", "_law_bottom"] (sp_lf fracOf) := by
  have D__law_common := df__law_common (P := P) (w := w) (base := base) T
  refine Df.mk T.a__law_fraction sc__law_fraction (fun _ _ _ _ _ _ us hl => match us, hl with | [_, _], _ => rfl) (fun vs H Q E h => ?_) (fun f cdv A outer s H vs Q E hr h => ?_)
  · obtain ⟨_, _, rfl, _⟩ := h
    rfl
  · obtain ⟨a, b, rfl, hb, bb, q⟩ := h
    refine ⟨_, (pss_cons (ps_set (i := 2) sc__law_fraction.nd rfl (.inl rfl) (pe_df D__law_common hr (by decide) (by rfl) (pa_cons (pe_callB call_abs (by rfl) T.z_abs bt_abs (pa_cons (pv 0) pa_nil)) (pa_cons (pv 1) pa_nil))))
  (pss_one (ps_ret (pe_tup (pa_cons (pe_op op_fdivW (pv 0) (pv 2)) (pa_cons (pe_op op_fdivW (pv 1) (pv 2)) pa_nil)))))), ?_⟩
    have hg := gcd_pos (a := a) hb
    have bg : Bd 700 (Int.gcd a b : Int) := bb.le (by omega) (gcd_le hb)
    refine ⟨_, rfl, _, rfl, _, rfl, a.natAbs, b.natAbs, ?_, bb, ?_⟩
    · rw [abs_nat, ← pos_nat hb]
      rfl
    refine ⟨_, rfl, _, rfl, _, _, rfl, rfl, bg.divOk hg, _, rfl, _, rfl, _, _, rfl, rfl, bg.divOk hg, by show 2 ≤ sizeLine; decide, fun p np => ?_⟩
    exact q _ _ (same_upd np) ⟨p, rfl, upd_same⟩
theorem df__law_left (T : Txt K mg) : Df P w K mg base 3 "_law_left" ["_law_top", "_law_bottom"] (sp_lf lawLeft) := by
  have D__law_fraction := df__law_fraction (P := P) (w := w) (base := base) T
  refine Df.mk T.a__law_left sc__law_left (fun _ _ _ _ _ _ us hl => match us, hl with | [_, _], _ => rfl) (fun vs H Q E h => ?_) (fun f cdv A outer s H vs Q E hr h => ?_)
  · obtain ⟨_, _, rfl, _⟩ := h
    rfl
  · obtain ⟨a, b, rfl, hb, bb, q⟩ := h
    refine ⟨_, (pss_one (ps_ret (pe_df D__law_fraction hr (by decide) (by rfl) (pa_cons (pe_op op_mod (pe_callTy call_int1 (by rfl) T.z_int bt_int (pa_cons (pv 0) pa_nil)) (pv 1)) (pa_cons (pv 1) pa_nil))))), ?_⟩
    exact ⟨_, rfl, .inl ⟨_, rfl, _, rfl, _, _, rfl, rfl, hb, _, rfl, _, _, rfl, hb, bb, q⟩⟩
theorem df__law_sum (T : Txt K mg) : Df P w K mg base 4 "_law_sum" ["_law_one", "_law_other"] (sp_t2 350 lawSum) := by
  have D__law_left := df__law_left (P := P) (w := w) (base := base) T
  refine Df.mk T.a__law_sum sc__law_sum (fun _ _ _ _ _ _ us hl => match us, hl with | [_, _], _ => rfl) (fun vs H Q E h => ?_) (fun f cdv A outer s H vs Q E hr h => ?_)
  · obtain ⟨_, _, _, _, rfl, _⟩ := h
    rfl
  · obtain ⟨_, _, x, y, rfl, ⟨p, rfl, hp⟩, ⟨r, rfl, hr'⟩, bx, bY, q⟩ := h
    refine ⟨_, (pss_one (ps_ret (pe_df D__law_left hr (by decide) (by rfl) (pa_cons (pe_op op_add (pe_op op_mulW (pe_ix (ix_tupK (K := K) rfl) (pv 0) pe_int (fun _ _ => rfl)) (pe_ix (ix_tupK (K := K) rfl) (pv 1) pe_int (fun _ _ => rfl))) (pe_op op_mulW (pe_ix (ix_tupK (K := K) rfl) (pv 1) pe_int (fun _ _ => rfl)) (pe_ix (ix_tupK (K := K) rfl) (pv 0) pe_int (fun _ _ => rfl)))) (pa_cons (pe_op op_mulW (pe_ix (ix_tupK (K := K) rfl) (pv 0) pe_int (fun _ _ => rfl)) (pe_ix (ix_tupK (K := K) rfl) (pv 1) pe_int (fun _ _ => rfl))) pa_nil))))), ?_⟩
    refine ⟨_, rfl, _, _, _, _, rfl, rfl, SqT_of hp, i0, _, rfl, _, _, _, _, rfl, rfl, SqT_of hr', i1, _, _, rfl, rfl, bx.2.1.mulOk bY.2.2,
      _, rfl, _, _, _, _, rfl, rfl, SqT_of hr', i0, _, rfl, _, _, _, _, rfl, rfl, SqT_of hp, i1, _, _, rfl, rfl, bY.2.1.mulOk bx.2.2, _, _, rfl, rfl,
      _, rfl, _, _, _, _, rfl, rfl, SqT_of hp, i1, _, rfl, _, _, _, _, rfl, rfl, SqT_of hr', i1, _, _, rfl, rfl, bx.2.2.mulOk bY.2.2, ?_⟩
    exact ⟨_, _, rfl, Int.mul_pos bx.1 bY.1, bx.2.2.mul bY.2.2, q⟩
theorem df__law_minus (T : Txt K mg) : Df P w K mg base 4 "_law_minus" ["_law_turn_here"] (sp_t1 700 lawMinus) := by
  have D__law_left := df__law_left (P := P) (w := w) (base := base) T
  refine Df.mk T.a__law_minus sc__law_minus (fun _ _ _ _ _ _ us hl => match us, hl with | [_], _ => rfl) (fun vs H Q E h => ?_) (fun f cdv A outer s H vs Q E hr h => ?_)
  · obtain ⟨_, _, rfl, _⟩ := h
    rfl
  · obtain ⟨_, x, rfl, ⟨p, rfl, hp⟩, bx, q⟩ := h
    refine ⟨_, (pss_one (ps_ret (pe_df D__law_left hr (by decide) (by rfl) (pa_cons (pe_un un_neg (pe_ix (ix_tupK (K := K) rfl) (pv 0) pe_int (fun _ _ => rfl))) (pa_cons (pe_ix (ix_tupK (K := K) rfl) (pv 0) pe_int (fun _ _ => rfl)) pa_nil))))), ?_⟩
    exact ⟨_, rfl, _, _, _, _, rfl, rfl, SqT_of hp, i0, _, rfl, _, rfl, _, _, _, _, rfl, rfl, SqT_of hp, i1, _, _, rfl, bx.1, bx.2.2, q⟩
def sp_law_sorted : Sp := fun vs H Q _ => ∃ v ts, vs = [v] ∧ rList rTurn H v ts ∧ ts.length ≤ 3 ∧ (∀ t ∈ ts, TOk 700 t) ∧ ∀ H' v', Same H H' → NewL rTurn H H' v' (inOrder ts) → Q v' H'
theorem df__law_sorted (T : Txt K mg) : Df P w K mg base 2 "_law_sorted" ["_law_turns_here"] sp_law_sorted := by
  have D__law_common := df__law_common (P := P) (w := w) (base := base) T
  refine Df.mk T.a__law_sorted sc__law_sorted (fun _ _ _ _ _ _ us hl => match us, hl with | [_], _ => rfl) (fun vs H Q E h => ?_) (fun f cdv A outer s H vs Q E hr h => ?_)
  · obtain ⟨_, _, rfl, _⟩ := h
    rfl
  · obtain ⟨_, ts, rfl, ⟨a, xs, rfl, ha, hp⟩, hn, ht, q⟩ := h
    refine ⟨_, (pss_cons (ps_set (i := 1) sc__law_sorted.nd rfl (.inr rfl) pe_int)
  (pss_cons (ps_for PassesOwn.never rfl (pi_listK (K := K) rfl (pv 0)) (pg_name (i := 2) sc__law_sorted.nd rfl (.inl rfl))
  (pss_one (ps_set (i := 1) sc__law_sorted.nd rfl (.inr rfl) (pe_op op_mulW (pe_op op_fdivW (pv 1) (pe_df D__law_common hr (by decide) (by rfl) (pa_cons (pv 1) (pa_cons (pe_ix (ix_tupK (K := K) rfl) (pv 2) pe_int (fun _ _ => rfl)) pa_nil)))) (pe_ix (ix_tupK (K := K) rfl) (pv 2) pe_int (fun _ _ => rfl))))))
  (pss_one (ps_ret (pe_lc (own := [("_law_top", 3), ("_law_one", 2)]) (g := gTup K 2 (gCons (gName 3) (gCons (gName 2) gNil))) (tt := tYes) (by rfl) sc__law_sorted.nd (pi_listK (K := K) rfl (pe_callB (cr_sortedTT hr.units) (by rfl) T.z_sorted bt_sorted (pa_cons (pe_lc (own := [("_law_one", 2)]) (g := gName 2) (tt := tYes) (by rfl) sc__law_sorted.nd (pi_listK (K := K) rfl (pv 0)) (blkOk_by (own := [("_law_one", 2)]) (N := ["_law_turns_here", "_law_bottom", "_law_one", "_law_top"]) (sc := defScope s__law_sorted) (by decide +kernel)) (fun _ _ _ _ _ => (pg_name (i := 2) sc__law_sorted.nd rfl (.inl rfl))) (fun _ _ _ _ _ => pts_nil) (fun _ _ _ _ _ => (pe_tup (pa_cons (pe_op op_mulW (pe_ix (ix_tupK (K := K) rfl) (pv 2) pe_int (fun _ _ => rfl)) (pe_op op_fdivW (pv 1) (pe_ix (ix_tupK (K := K) rfl) (pv 2) pe_int (fun _ _ => rfl)))) (pa_cons (pv 2) pa_nil))))) pa_nil))) (blkOk_by (own := [("_law_top", 3), ("_law_one", 2)]) (N := ["_law_turns_here", "_law_bottom", "_law_one", "_law_top"]) (sc := defScope s__law_sorted) (by decide +kernel)) (fun _ _ _ _ _ => (pg_tup rfl (pgs_cons (pg_name (i := 3) sc__law_sorted.nd rfl (.inl rfl)) (pgs_cons (pg_name (i := 2) sc__law_sorted.nd rfl (.inl rfl)) pgs_nil)))) (fun _ _ _ _ _ => pts_nil) (fun _ _ _ _ _ => (pv 2))))))), ?_⟩
    have hl : xs.length = ts.length := PySem.Paired.length hp
    have hz : xs.length ≤ sizeLine := small3 (by omega)
    obtain ⟨b1, b2⟩ := botts_ok hn fun t hm => (ht t hm).mono (by decide)
    have bpos : ∀ i, 0 < ((botts ts).take i).foldl lcmI 1 := fun i => lcmFold_pos _ _ (by decide) fun n hm => (b1 n (List.mem_of_mem_take hm)).1
    have blen : (botts ts).length = ts.length := List.length_map ..
    refine ⟨_, rfl, a, rfl, ⟨xs, SqL_of ha⟩, for_list (K := K) (a := a) (xs := xs) (fun i σ H' => ∃ y2 y3, σ = [some (.ref a), some (.int (((botts ts).take i).foldl lcmI 1)), y2, y3] ∧ H' = H) ⟨_, _, rfl, rfl⟩ (fun i σ H' _ h => ?_) (fun i x σ H' hx h => ?_) (fun σ H' h => ?_)⟩
    · obtain ⟨_, _, _, rfl⟩ := h
      exact SqL_of ha
    · obtain ⟨y2, y3, rfl, rfl⟩ := h
      obtain ⟨t, ht1, p, rfl, hp1⟩ := Paired.get hp hx
      have tm := List.mem_of_getElem? ht1
      have hi : i < ts.length := (List.getElem?_eq_some_iff.mp ht1).1
      have hpos := bpos i
      have htb := ht t tm
      have hb2 := b2 i (by omega)
      have hg := gcd_pos (a := ((botts ts).take i).foldl lcmI 1) htb.1
      have bg : Bd 700 (Int.gcd (((botts ts).take i).foldl lcmI 1) t.2 : Int) := htb.2.2.le (by omega) (gcd_le htb.1)
      refine ⟨_, rfl, _, rfl, _, rfl, _, _, _, _, rfl, rfl, SqT_of hp1, i1, (((botts ts).take i).foldl lcmI 1).natAbs, t.2.natAbs, ?_, htb.2.2, _, _, rfl, rfl, bg.divOk hg, _, rfl, _, _, _, _, rfl, rfl, SqT_of hp1, i1, _, _, rfl, rfl, (hb2.div hg).mulOk htb.2.2, ?_⟩
      · rw [← pos_nat hpos, ← pos_nat htb.1]
        rfl
      · refine ⟨some (.ref p), y3, ?_, rfl⟩
        have e : (botts ts)[i]? = some t.2 := by
          unfold botts
          rw [List.getElem?_map, ht1]
          rfl
        rw [take_fold e]
        rfl
    · obtain ⟨y2, y3, rfl, rfl⟩ := h
      rw [hl, ← blen, List.take_length]
      rw [show (botts ts).foldl lcmI 1 = lcmAll (botts ts) from rfl]
      refine ⟨_, rfl, a, rfl, ⟨xs, SqL_of ha⟩, fun D2 hD2 => lc_fm (walk_list (K := K) (a := a) (xs := xs)) rIT_tm (fun i => ts[i]?.map fun t => (atB t (lcmAll (botts ts)), t)) hz hD2 (fun H' s' => SqL_of (s' _ _ ha)) (fun i x H2 H2' hi s2 hy Qe Ne hq hne => ?_) (fun H2 s2 hL2 => ?_)⟩
      · obtain ⟨rfl, hx⟩ := hy
        obtain ⟨t, ht1, p, rfl, hp1⟩ := Paired.get hp hx
        have hp2 := s2 _ _ hp1
        have tm := List.mem_of_getElem? ht1
        have hb3 : Bd 8000 (lcmAll (botts ts)) := by
          have := b2 (botts ts).length (Nat.le_refl _)
          rw [List.take_length] at this
          exact this
        refine ⟨rfl, yes_go ⟨_, rfl, _, _, _, _, rfl, rfl, SqT_of hp2, i0, _, rfl, _, rfl, _, _, _, _, rfl, rfl, SqT_of hp2, i1, _, _, rfl, rfl, (ht t tm).2.2.divOk (ht t tm).1, _, _, rfl, rfl, (ht t tm).2.1.mulOk (hb3.div (ht t tm).1), _, rfl, by show 2 ≤ sizeLine; decide, fun r hr' => ?_⟩⟩
        exact hq _ _ (atB t (lcmAll (botts ts)), t) (same_upd hr') (by rw [ht1]; rfl) ⟨r, _, _, rfl, upd_same, rfl, p, rfl, (same_upd hr') _ _ hp2⟩
      · rw [hl, fm_map] at hL2
        obtain ⟨p2, ys2, e2, hnp2, hlp2, hpp2⟩ := hL2
        cases e2
        refine ⟨IT, rIT, dIT, D2, ys2, _, rfl, SqL_of hlp2, hpp2, dp_IT, PySem.W.AllAlike.of alike_dIT, PySem.W.Sortable.tuples fun b => ⟨_, _, rfl⟩, fun x _ => depth_dIT x, fun zs r hzs hr' => ?_⟩
        have s3 : Same H2 (upd H2 r (.lst zs)) := same_upd hr'
        have hzl : zs.length ≤ sizeLine := by
          have := PySem.Paired.length hzs
          rw [List.length_mergeSort, List.length_map] at this
          omega
        refine ⟨r, rfl, ⟨zs, SqL_of upd_same⟩, fun D3 hD3 => lc_fm (walk_list (K := K) (a := r) (xs := zs)) rTurn_tm (fun i => ((ts.map fun t => (atB t (lcmAll (botts ts)), t)).mergeSort (PySem.W.dataLe false dIT))[i]?.map Prod.snd) hzl hD3 (fun H' s' => SqL_of (s' _ _ upd_same)) (fun i x H4 H4' hi s4 hy Qe Ne hq hne => ?_) (fun H4 s4 hL4 => ?_)⟩
        · obtain ⟨rfl, hx⟩ := hy
          obtain ⟨t, ht1, p, x1, x2, rfl, hp1, r1, r2⟩ := Paired.get hzs hx
          have hp2 := s4 _ _ (s3 _ _ hp1)
          exact ⟨p, _, rfl, SqT_of hp2, rfl, _, _, rfl, _, _, rfl, rfl, rfl, yes_go ⟨_, rfl, hq _ _ _ (Same.refl _) (by rw [ht1]; rfl) (rTurn_tm.go (TSame.of (s3.trans s4)) r2)⟩⟩
        · have ez : zs.length = ((ts.map fun t => (atB t (lcmAll (botts ts)), t)).mergeSort (PySem.W.dataLe false dIT)).length := PySem.Paired.length hzs
          rw [ez, fm_map] at hL4
          obtain ⟨p5, ys5, e5, hn5, hl5, hp5⟩ := hL4
          cases e5
          exact q _ _ (s2.trans (s3.trans s4)) ⟨D3, ys5, rfl, (s2.trans s3).free hn5, hl5, hp5⟩
def eachT (way : Int) (r t : Turn) : Turn := lawSum (if way = 1 then t else lawMinus t) r
def eachIn (p : Pl) (way : Int) (r : Turn) : Pl := p.map fun x => (x.1, inOrder (x.2.map (eachT way r)))
theorem eachT_ok {way : Int} {r t : Turn} (h : TOk 350 t) (g : TOk 350 r) : TOk 700 (eachT way r t) := by
  unfold eachT
  split
  · exact lawSum_ok h g
  · exact lawSum_ok (lawMinus_ok h) g
def sp_law_each : Sp := fun vs H Q _ => ∃ v1 v2 p r, ∃ way : Int, vs = [v1, .int way, v2] ∧ rPlace H v1 p ∧ rTurn H v2 r ∧ PlB 350 p ∧ TOk 350 r ∧ ∀ H' v, Same H H' → NewPl H H' v (eachIn p way r) → Q v H'
theorem df__law_each (T : Txt K mg) : Df P w K mg base 5 "_law_each" ["_law_where", "_law_way", "_law_more"] sp_law_each := by
  have D__law_sum := df__law_sum (P := P) (w := w) (base := base) T
  have D__law_minus := df__law_minus (P := P) (w := w) (base := base) T
  have D__law_sorted := df__law_sorted (P := P) (w := w) (base := base) T
  refine Df.mk T.a__law_each sc__law_each (fun _ _ _ _ _ _ us hl => match us, hl with | [_, _, _], _ => rfl) (fun vs H Q E h => ?_) (fun f cdv A outer s H vs Q E hr h => ?_)
  · obtain ⟨_, _, _, _, _, rfl, _⟩ := h
    rfl
  · obtain ⟨_, v2, pl, r, way, rfl, ⟨a, xs, rfl, ha, hp⟩, hr2, ⟨hn, hb⟩, br, q⟩ := h
    refine ⟨_, (pss_cons (ps_set (i := 3) sc__law_each.nd rfl (.inl rfl) (pe_lst pa_nil))
  (pss_cons (ps_for PassesOwn.never rfl (pi_listK (K := K) rfl (pv 0)) (pg_tup rfl (pgs_cons (pg_name (i := 4) sc__law_each.nd rfl (.inl rfl)) (pgs_cons (pg_name (i := 5) sc__law_each.nd rfl (.inl rfl)) pgs_nil)))
  (pss_cons (ps_setLc (i := 6) (own := [("_law_one", 7)]) (g := gName 7) (tt := tYes) (by rfl) sc__law_each.nd rfl rfl (sw_true rfl rfl rfl (by decide +kernel)) (pi_listK (K := K) rfl (pv 5)) (blkOk_by (own := [("_law_one", 7)]) (N := ["_law_where", "_law_way", "_law_more", "_law_found", "_law_name", "_law_turns_here", "_law_some", "_law_one"]) (sc := defScope s__law_each) (by decide +kernel)) (fun _ _ _ _ _ => (pg_name (i := 7) sc__law_each.nd rfl (.inl rfl))) (fun _ _ _ _ _ => pts_nil) (fun _ _ _ _ _ => (pe_df D__law_sum hr (by decide) (by rfl) (pa_cons (pe_ifExp (pt_cmpR op_eq (pv 1) pe_int (nomark _)) (pv 7) (pe_df D__law_minus hr (by decide) (by rfl) (pa_cons (pv 7) pa_nil))) (pa_cons (pv 2) pa_nil)))))
  (pss_one (ps_expr (pe_bm PySem.F.plainAttrs_list PySem.F.slot_list_append PySem.F.type_list_append mt_append (pv 3) (pa_cons (pe_tup (pa_cons (pv 4) (pa_cons (pe_df D__law_sorted hr (by decide) (by rfl) (pa_cons (pv 6) pa_nil)) pa_nil))) pa_nil))))))
  (pss_one (ps_ret (pv 3))))), ?_⟩
    have hl : xs.length = pl.length := PySem.Paired.length hp
    have hz : xs.length ≤ sizeLine := small100 (by omega)
    refine ⟨Nat.zero_le _, fun D hD => ⟨_, rfl, a, rfl, ⟨xs, SqL_of (same_upd hD _ _ ha)⟩, for_it (walk_list (K := K) (a := a) (xs := xs))
      (fun i σ H' => ∃ y4 y5 y6 y7, σ = [some (.ref a), some (.int way), some v2, some (.ref D), y4, y5, y6, y7] ∧ Same H H' ∧ ∃ zs ls, H' D = some (.lst zs) ∧ zs.length = i ∧ RowsAt H H' zs ((pl.take i).map fun x => (x.1, inOrder (x.2.map (eachT way r)))) ls ∧ D ∉ ls) ?_ (fun i σ H' _ h => ?_) (fun i x σ H1 H1' hi h hy => ?_) (fun σ H1 h => ?_)⟩⟩
    · exact ⟨none, none, none, none, rfl, same_upd hD, [], [], upd_same, rfl, .nil, by simp⟩
    · obtain ⟨_, _, _, _, _, s1, _⟩ := h
      exact SqL_of (s1 _ _ ha)
    · obtain ⟨y4, y5, y6, y7, rfl, s1, zs, ls, hzs, hlz, hrow, hDl⟩ := h
      obtain ⟨rfl, hx⟩ := hy
      obtain ⟨row, hrw, p, x1, x2, rfl, hp1, r1, b, ws, rfl, hbl, hpw⟩ := Paired.get hp hx
      obtain rfl : x1 = .str row.1 := r1
      have hm := hb row (List.mem_of_getElem? hrw)
      have hlw : ws.length = row.2.length := PySem.Paired.length hpw
      have hb1 := s1 _ _ hbl
      refine ⟨p, _, rfl, SqT_of (s1 _ _ hp1), rfl, _, _, rfl, _, _, rfl, rfl, ?_⟩
      refine ⟨_, rfl, b, rfl, ⟨ws, SqL_of hb1⟩, fun D2 hD2 => lc_fm (walk_list (K := K) (a := b) (xs := ws)) rTurn_tm (fun j => row.2[j]?.map (eachT way r)) (small3 (by omega)) hD2 (fun H' s' => SqL_of (s' _ _ hb1)) (fun j x H2 H2' hj s2 hy2 Qe Ne hq hne => ?_) (fun H2 s2 hL => ?_)⟩
      · obtain ⟨rfl, hx2⟩ := hy2
        obtain ⟨t, ht1, rt⟩ := Paired.get hpw hx2
        have bt := hm.2 t (List.mem_of_getElem? ht1)
        have rt2 := rTurn_mono.go (s1.trans s2) rt
        have rr2 := rTurn_mono.go (s1.trans s2) hr2
        refine ⟨rfl, yes_go ⟨_, rfl, rfl, _, rfl, ?_⟩⟩
        have eF : ∀ y, eachT way r t = y → Option.map (eachT way r) (row.2[j]?) = some y := fun y e => by rw [ht1, ← e]; rfl
        by_cases hw : way = 1
        · rw [decide_eq_true (congrArg V.int hw)]
          refine iteT ⟨_, rfl, _, rfl, _, _, t, r, rfl, rt2, rr2, bt, br, fun H3 v3 s3 r3 => hq _ _ _ s3 (eF _ ?_) r3⟩
          unfold eachT
          rw [if_pos hw]
        · rw [decide_eq_false fun z => hw (V.int.inj z)]
          refine iteF ⟨_, rfl, _, t, rfl, rt2, bt.mono (by decide), fun H3 v3 s3 r3 => ⟨_, rfl, _, _, lawMinus t, r, rfl, r3, rTurn_mono.go s3 rr2, lawMinus_ok bt, br, fun H4 v4 s4 r4 => hq _ _ _ (s3.trans s4) (eF _ ?_) r4⟩⟩
          unfold eachT
          rw [if_neg hw]
      · rw [hlw, fm_map] at hL
        refine ⟨_, rfl, .inl ⟨rfl, _, SqL_of (s2 _ _ hzs)⟩, _, rfl, _, rfl, _, _, rfl, hL.list, by rw [List.length_map]; exact hm.1, fun t ht => ?_, fun H3 v3 s3 hN => ?_⟩
        · obtain ⟨t0, h0, rfl⟩ := List.mem_map.mp ht
          exact eachT_ok (hm.2 t0 h0) br
        · obtain ⟨l, ys, rfl, hln, hll, hpy⟩ := hN
          refine ⟨by show 2 ≤ sizeLine; decide, fun c nc => ?_⟩
          have s13 : Same H1' H3 := s2.trans s3
          have sc := same_upd (o := .tup [.str row.1, .ref l]) nc
          have hD3 : upd H3 c (.tup [.str row.1, .ref l]) D = some (.lst zs) := sc _ _ (s13 _ _ hzs)
          have h100 := small100 hn
          refine ⟨D, _, _, rfl, rfl, hD3, by omega, _, _, _, _, rfl, ?_⟩
          have tsD : TSame (upd H3 c (.tup [.str row.1, .ref l])) (upd (upd H3 c (.tup [.str row.1, .ref l])) D (.lst (zs ++ [.ref c]))) := .lst hD3
          have hlD : l ≠ D := (ne_of_none (s2 _ _ hzs) hln).symm
          have hcD : c ≠ D := (ne_of_none (s13 _ _ hzs) nc).symm
          have hlc : l ≠ c := ne_of_none hll nc
          refine ⟨Same.put hD ((s1.trans s13).trans sc), zs ++ [.ref c], ls ++ [l], upd_same, by rw [List.length_append, hlz]; rfl, ?_, ?_⟩
          · rw [take_map_succ hrw]
            refine RowsAt.snoc (t := c) (l := l) (ys := ys) ?_ ((s1.trans s2).free hln) ?_ ?_ ?_ ?_
            · rw [upd_ne hcD, upd_same]
            · rw [upd_ne hlD, upd_ne hlc]
              exact hll
            · exact Paired.tm rTurn_tm ((TSame.of sc).trans tsD) hpy
            · refine RowsAt.keep ((TSame.of (s13.trans sc)).trans tsD) hrow fun k hk ys' hys => ?_
              rw [upd_ne (fun z => hDl (by rw [← z]; exact hk))]
              exact sc _ _ (s13 _ _ hys)
            · intro hk
              obtain ⟨_, ys', hys⟩ := hrow.there l hk
              rw [(s2 _ _ hys)] at hln
              cases hln
          · intro hk
            rcases List.mem_append.mp hk with e | e
            · exact hDl e
            · exact hlD (List.mem_singleton.mp e).symm
    · obtain ⟨y4, y5, y6, y7, rfl, s1, zs, ls, hzs, hlz, hrow, hDl⟩ := h
      rw [hl, List.take_length] at hrow
      exact ⟨_, rfl, q _ _ s1 ⟨D, zs, ls, rfl, hD, hzs, hrow, hDl⟩⟩
end
end K31

set_option Elab.async false
set_option linter.all false
set_option maxRecDepth 100000
set_option maxHeartbeats 1000000
namespace K31
open PySem PySem.Spec PyProof.Rows L2
/-! ### powers of great ints -/
def CPowW (i j : Int) : Prop := 0 ≤ j ∧ (Builtin.Int.intBits i : Int) * j ≤ 2 ^ 27
theorem op_powW {X : Cx} : OpR X (binaryOp .Pow) (rI CPowW fun i j => .int (i ^ j.toNat)) := opI fun _ _ _ _ _ _ _ hc q => pow_int hc.1 hc.2 q
theorem Bd.powOk {x : Int} {k : Nat} {n : Int} (h : Bd k x) (h0 : 0 < k := by decide) (hn : 0 ≤ n ∧ n ≤ 100 := by decide) (hk : k ≤ 1000 := by decide) : CPowW x n := by
  refine ⟨hn.1, ?_⟩
  have h1 : Builtin.Int.intBits x ≤ k := by
    have h2 := PySem.Flt.log2_lt_of h0 h
    unfold Builtin.Int.intBits
    split <;> omega
  have h3 : (Builtin.Int.intBits x : Int) * n ≤ (k : Int) * n := Int.mul_le_mul_of_nonneg_right (by omega) hn.1
  have h4 : (k : Int) * n ≤ (k : Int) * 100 := Int.mul_le_mul_of_nonneg_left hn.2 (by omega)
  have : (2 : Int) ^ 27 = 134217728 := by decide
  omega
/-! ### the urn -/
def UrnO (o : HO) (c : Nat) : Prop := ∃ x y z : Int, o = .lst [.int x, .int y, .int z] ∧ 0 ≤ y ∧ Bd 200 y ∧ 0 ≤ z ∧ z ≤ c
def UrnAt (H : Hp) (u : Addr) (c : Nat) : Prop := ∃ o, H u = some o ∧ UrnO o c
/-- all but the urn stays -/
def SU (u : Addr) (H H' : Hp) : Prop := ∀ b o, b ≠ u → H b = some o → H' b = some o
theorem SU.of {u : Addr} {H H' : Hp} (s : Same H H') : SU u H H' := fun b o _ e => s b o e
theorem SU.trans {u : Addr} {H H1 H2 : Hp} (a : SU u H H1) (b : SU u H1 H2) : SU u H H2 := fun c o hc e => b c o hc (a c o hc e)
theorem SU.refl (u : Addr) (H : Hp) : SU u H H := fun _ _ _ e => e
theorem SU.upd {u : Addr} {H : Hp} {o : HO} : SU u H (upd H u o) := fun b o hb e => by
  rw [upd_ne hb]
  exact e
theorem UrnAt.lst {H : Hp} {u : Addr} {c : Nat} (h : UrnAt H u c) : ∃ ys, H u = some (.lst ys) := by
  obtain ⟨o, h1, x, y, z, rfl, _⟩ := h
  exact ⟨_, h1⟩
theorem UrnAt.mono {H : Hp} {u : Addr} {a b : Nat} (h : UrnAt H u a) (l : a ≤ b) : UrnAt H u b := by
  obtain ⟨o, h1, x, y, z, e, h2, h3, h4, h5⟩ := h
  exact ⟨o, h1, x, y, z, e, h2, h3, h4, by omega⟩
theorem UrnAt.same {H H' : Hp} {u : Addr} {c : Nat} (s : Same H H') (h : UrnAt H u c) : UrnAt H' u c := by
  obtain ⟨o, h1, h2⟩ := h
  exact ⟨o, s _ _ h1, h2⟩
theorem UrnAt.put {H : Hp} {u : Addr} {c : Nat} {o : HO} (h : UrnO o c) : UrnAt (upd H u o) u c := ⟨o, upd_same, h⟩
theorem SU.tup {u : Addr} {H H' : Hp} {c : Nat} (h : UrnAt H u c) (s : SU u H H') : TSame H H' := fun b xs e => by
  obtain ⟨ys, hy⟩ := h.lst
  exact s b _ (ne_of e hy fun z => nomatch z) e
theorem SU.put {u : Addr} {H1 H : Hp} {a : Addr} {o : HO} (h : H1 a = none) (s : SU u H1 H) : SU u H1 (L2.upd H a o) := fun b v hb e => by
  rw [upd_ne (ne_of_none e h)]
  exact s _ _ hb e
theorem SU.free {u : Addr} {H H' : Hp} {a : Addr} {c : Nat} (hu : UrnAt H u c) (hu' : UrnAt H' u c) (s : SU u H H') (h : H' a = none) : H a = none := by
  cases e : H a with
  | none => rfl
  | some o =>
    by_cases ha : a = u
    · obtain ⟨ys, hy⟩ := hu'.lst
      rw [← ha, h] at hy
      cases hy
    · rw [s a o ha e] at h
      cases h
theorem atI_pos {α : Type} {xs : List α} {r : Int} {v : α} (h0 : 0 ≤ r) (h : xs[r.toNat]? = some v) : atI xs r = some v := by
  have e : r = (r.toNat : Int) := by omega
  rw [e]
  exact atI_nat h
theorem pick_small {m : Int} (h : 0 < m) (x : Int) : 0 ≤ x % m ∧ x % m < m := ⟨Int.emod_nonneg _ (by omega), Int.emod_lt_of_pos _ h⟩
section
variable {P : Program} {w : World} {K : PySem.W.Frag} {mg : Str → Option Value} {base : Heap}
def sp_pick : Sp := fun vs H Q _ => ∃ (u : Addr) (m : Int) (c : Nat), vs = [.ref u, .int m] ∧ UrnAt H u c ∧ c ≤ 1000 ∧ 0 < m ∧ Bd 8000 m ∧ ∀ o r, UrnO o (c + 1) → 0 ≤ r → r < m → Q (.int r) (upd H u o)
theorem df__law_pick (T : Txt K mg) : Df P w K mg base 1 "_law_pick" ["_law_urn_here", "_law_many"] sp_pick := by
  refine Df.mk T.a__law_pick sc__law_pick (fun _ _ _ _ _ _ us hl => match us, hl with | [_, _], _ => rfl) (fun vs H Q E h => ?_) (fun f cdv A outer s H vs Q E hr h => ?_)
  · obtain ⟨_, _, _, rfl, _⟩ := h
    rfl
  · obtain ⟨u, m, c, rfl, ⟨o, hu, x, y, z, rfl, hy0, hyb, hz0, hzc⟩, hc, hm, bm, q⟩ := h
    refine ⟨_, (pss_cons (ps_if (pt_cmpR op_gt (pe_ix (ix_listK (K := K) rfl) (pv 0) pe_int (fun _ _ => rfl)) pe_int (nomark _)) (pss_cons (ps_set (i := 2) sc__law_pick.nd rfl (.inl rfl) (pe_op op_mod (pe_callTy call_int1 (by rfl) T.z_int bt_int (pa_cons (pe_ix (ix_listK (K := K) rfl) (pv 0) pe_int (fun _ _ => rfl)) pa_nil)) (pv 1)))
  (pss_cons (ps_asg (pe_op op_fdivW (pe_ix (ix_listK (K := K) rfl) (pv 0) pe_int (fun _ _ => rfl)) (pv 1)) (pg_sub (pv 0) pe_int set_list))
  (pss_one (ps_ret (pv 2))))) pss_nil)
  (pss_cons (ps_asg (pe_op op_add (pe_ix (ix_listK (K := K) rfl) (pv 0) pe_int (fun _ _ => rfl)) pe_int) (pg_sub (pv 0) pe_int set_list))
  (pss_cons (ps_set (i := 3) sc__law_pick.nd rfl (.inl rfl) (pe_op op_mod (pe_op op_powW (pe_callTy call_int1 (by rfl) T.z_int bt_int (pa_cons (pe_op op_add (pe_ix (ix_listK (K := K) rfl) (pv 0) pe_int (fun _ _ => rfl)) (pe_op op_mulW pe_int (pe_ix (ix_listK (K := K) rfl) (pv 0) pe_int (fun _ _ => rfl)))) pa_nil)) pe_int) (pe_op op_add (pe_op op_powW pe_int pe_int) pe_int)))
  (pss_cons (ps_set (i := 3) sc__law_pick.nd rfl (.inl rfl) (pe_op op_mod (pe_op op_powW (pe_callTy call_int1 (by rfl) T.z_int bt_int (pa_cons (pe_op op_add (pv 3) (pe_op op_mulW pe_int (pe_ix (ix_listK (K := K) rfl) (pv 0) pe_int (fun _ _ => rfl)))) pa_nil)) pe_int) (pe_op op_add (pe_op op_powW pe_int pe_int) pe_int)))
  (pss_one (ps_ret (pe_op op_mod (pe_callTy call_int1 (by rfl) T.z_int bt_int (pa_cons (pe_op op_fdivW (pv 3) pe_int) pa_nil)) (pv 1)))))))), ?_⟩
    have a0 : ∀ {a b c : V}, atI [a, b, c] 0 = some a := atI_nat (j := 0) rfl
    have a1 : ∀ {a b c : V}, atI [a, b, c] 1 = some b := atI_nat (j := 1) rfl
    have a2 : ∀ {a b c : V}, atI [a, b, c] 2 = some c := atI_nat (j := 2) rfl
    refine ⟨_, rfl, u, _, _, _, rfl, rfl, SqL_of hu, a0, _, _, rfl, rfl, _, rfl, ite2 (fun h => ?_) (fun h => ?_)⟩
    · refine ⟨_, rfl, _, _, _, _, rfl, rfl, SqL_of hu, a0, .inl ⟨_, rfl, _, rfl, _, _, rfl, rfl, hm, ?_⟩⟩
      refine ⟨_, rfl, u, _, _, _, rfl, rfl, SqL_of hu, a0, _, rfl, _, _, rfl, rfl, bm.divOk hm, _, rfl, u, _, _, 0, rfl, rfl, hu, rfl, _, rfl, ?_⟩
      have hp := pick_small hm x
      exact q _ _ ⟨x / m, y, z, rfl, hy0, hyb, hz0, by omega⟩ hp.1 hp.2
    · have b70 : Bd 17 (70001 : Int) := by
        unfold Bd
        decide
      have b60 : Bd 16 (60013 : Int) := by
        unfold Bd
        decide
      have b10 : Bd 4 (10 : Int) := by
        unfold Bd
        decide
      have bz : Bd 20 (z + 1) := by
        unfold Bd
        show (z + 1).natAbs < 1048576
        omega
      have p32 : (0 : Int) < 10 ^ (32 : Int).toNat + 49 := by decide
      have p31 : (0 : Int) < 10 ^ (31 : Int).toNat + 33 := by decide
      have b32 : Bd 200 ((10 : Int) ^ (32 : Int).toNat + 49) := by
        unfold Bd
        decide
      have b52 : Bd 20 (524288 : Int) := by
        unfold Bd
        decide
      refine ⟨_, rfl, u, _, _, _, rfl, rfl, SqL_of hu, a2, _, _, rfl, rfl, _, rfl, u, _, _, 2, rfl, rfl, hu, rfl, ?_⟩
      have hu2 : upd H u (.lst ([V.int x, V.int y, V.int z].set 2 (.int (z + 1)))) u = some (.lst [.int x, .int y, .int (z + 1)]) := upd_same
      have by1 : Bd 201 (y + 70001 * (z + 1)) := hyb.add ((b70.mul bz).mono (by decide))
      refine ⟨_, rfl, u, _, _, _, rfl, rfl, SqL_of hu2, a1, _, rfl, u, _, _, _, rfl, rfl, SqL_of hu2, a2, _, _, rfl, rfl, b70.mulOk bz, _, _, rfl, rfl, .inl ⟨_, rfl, _, _, rfl, rfl, by1.powOk, _, _, rfl, rfl, b10.powOk, _, _, rfl, rfl, _, _, rfl, rfl, p32, ?_⟩⟩
      have hm1 := pick_small p32 ((y + 70001 * (z + 1)) ^ (3 : Int).toNat)
      have bm1 : Bd 200 ((y + 70001 * (z + 1)) ^ (3 : Int).toNat % (10 ^ (32 : Int).toNat + 49)) := b32.le hm1.1 (by omega)
      have by2 : Bd 201 ((y + 70001 * (z + 1)) ^ (3 : Int).toNat % (10 ^ (32 : Int).toNat + 49) + 60013 * (z + 1)) := bm1.add ((b60.mul bz).mono (by decide))
      refine ⟨_, rfl, _, rfl, u, _, _, _, rfl, rfl, SqL_of hu2, a2, _, _, rfl, rfl, b60.mulOk bz, _, _, rfl, rfl, .inl ⟨_, rfl, _, _, rfl, rfl, by2.powOk, _, _, rfl, rfl, b10.powOk, _, _, rfl, rfl, _, _, rfl, rfl, p31, ?_⟩⟩
      refine ⟨_, rfl, _, _, rfl, rfl, b52.divOk (by decide), .inl ⟨_, rfl, _, rfl, _, _, rfl, rfl, hm, ?_⟩⟩
      exact q _ _ ⟨x, y, z + 1, rfl, hy0, hyb, by omega, by omega⟩ (pick_small hm _).1 (pick_small hm _).2
/-! ### _law_urn -/
def sp_urn : Sp := fun vs H Q _ => ∃ (a : Addr) (ns : List Int) (k : Nat), vs = [.ref a, .int (k : Int)] ∧ SqL K H a (ns.map V.int) ∧ k < 10 ∧ ∀ H' u, Same H H' → H u = none → UrnAt H' u 0 → Q (.ref u) H'
theorem df__law_urn (T : Txt K mg) : Df P w K mg base 1 "_law_urn" ["_law_script", "_law_k"] (sp_urn (K := K)) := by
  refine Df.mk T.a__law_urn sc__law_urn (fun _ _ _ _ _ _ us hl => match us, hl with | [_, _], _ => rfl) (fun vs H Q E h => ?_) (fun f cdv A outer s H vs Q E hr h => ?_)
  · obtain ⟨_, _, _, rfl, _⟩ := h
    rfl
  · obtain ⟨a, ns, k, rfl, hS, hk, q⟩ := h
    refine ⟨_, (pss_cons (ps_set (i := 2) sc__law_urn.nd rfl (.inl rfl) (pe_ifExp (pt_cmpR op_lt (pv 1) (pe_callB call_len_seq (by rfl) T.z_len bt_len (pa_cons (pv 0) pa_nil)) (nomark _)) (pe_ix (ix_listK (K := K) rfl) (pv 0) (pv 1) (fun _ _ => rfl)) (pe_op op_add (pe_op op_mulW pe_int (pv 1)) pe_int)))
  (pss_one (ps_ret (pe_lst (pa_cons (pe_callB (call_max2 rfl) (by rfl) T.z_max bt_max (pa_cons pe_int (pa_cons (pe_op op_sub (pe_callB call_abs (by rfl) T.z_abs bt_abs (pa_cons (pv 2) pa_nil)) (pe_op op_powW pe_int pe_int)) pa_nil))) (pa_cons (pe_op op_add (pe_op op_add (pe_op op_mulW (pe_op op_mod (pe_callTy call_int1 (by rfl) T.z_int bt_int (pa_cons (pv 2) pa_nil)) (pe_op op_add (pe_op op_powW pe_int pe_int) pe_int)) pe_int) (pe_op op_mulW pe_int (pv 1))) pe_int) (pa_cons pe_int pa_nil))))))), ?_⟩
    have b10 : Bd 4 (10 : Int) := by
      unfold Bd
      decide
    have b61 : Bd 6 (61 : Int) := by
      unfold Bd
      decide
    have b3 : Bd 2 (3 : Int) := by
      unfold Bd
      decide
    have b7 : Bd 3 (7 : Int) := by
      unfold Bd
      decide
    have bk : Bd 4 (k : Int) := by
      unfold Bd
      show k < 16
      omega
    have p27 : (0 : Int) < 10 ^ (27 : Int).toNat + 103 := by decide
    have b27 : Bd 150 ((10 : Int) ^ (27 : Int).toNat + 103) := by
      unfold Bd
      decide
    refine ⟨_, rfl, _, rfl, a, _, rfl, .inl hS, _, _, rfl, rfl, _, rfl, ite2 (fun h => ?_) (fun h => ?_)⟩
    · have hlt : k < ns.length := by
        have := of_decide_eq_true h
        rw [List.length_map] at this
        omega
      refine ⟨_, rfl, _, rfl, a, _, _, _, rfl, rfl, hS, atI_nat (by rw [List.getElem?_map, List.getElem?_eq_getElem hlt]; rfl), ?_⟩
      generalize ns[k] = z
      refine ⟨_, rfl, _, rfl, _, _, rfl, rfl, b10.powOk, _, _, rfl, rfl, 0, _, rfl, _, rfl, .inl ⟨_, rfl, _, _, rfl, rfl, b10.powOk, _, _, rfl, rfl, _, _, rfl, rfl, p27, _, _, rfl, rfl, ?_, _, rfl, _, _, rfl, rfl, b3.mulOk bk, _, _, rfl, rfl, _, _, rfl, rfl, by show 3 ≤ sizeLine; decide, fun u nu => ?_⟩⟩
      · have hp := pick_small p27 z
        exact (b27.le hp.1 (by omega)).mulOk b7
      · have hp := pick_small p27 z
        refine q _ u (same_upd nu) nu ⟨_, upd_same, _, _, _, rfl, by omega, ?_, by decide, by decide⟩
        have h1 : Bd 150 (z % (10 ^ (27 : Int).toNat + 103)) := b27.le hp.1 (by omega)
        have h2 := ((h1.mul b7).add ((b3.mul bk).mono (by decide))).add (y := 2) (by unfold Bd; decide)
        exact h2.mono (by decide)
    · refine ⟨_, rfl, _, _, rfl, rfl, b61.mulOk bk, _, _, rfl, rfl, ?_⟩
      refine ⟨_, rfl, _, rfl, _, _, rfl, rfl, b10.powOk, _, _, rfl, rfl, 0, _, rfl, _, rfl, .inl ⟨_, rfl, _, _, rfl, rfl, b10.powOk, _, _, rfl, rfl, _, _, rfl, rfl, p27, _, _, rfl, rfl, ?_, _, rfl, _, _, rfl, rfl, b3.mulOk bk, _, _, rfl, rfl, _, _, rfl, rfl, by show 3 ≤ sizeLine; decide, fun u nu => ?_⟩⟩
      · have hp := pick_small p27 (61 * (k : Int) + 43)
        exact (b27.le hp.1 (by omega)).mulOk b7
      · have hp := pick_small p27 (61 * (k : Int) + 43)
        refine q _ u (same_upd nu) nu ⟨_, upd_same, _, _, _, rfl, by omega, ?_, by decide, by decide⟩
        have h1 : Bd 150 ((61 * (k : Int) + 43) % (10 ^ (27 : Int).toNat + 103)) := b27.le hp.1 (by omega)
        have h2 := ((h1.mul b7).add ((b3.mul bk).mono (by decide))).add (y := 2) (by unfold Bd; decide)
        exact h2.mono (by decide)
end
end K31

set_option Elab.async false
set_option linter.all false
set_option maxRecDepth 100000
set_option maxHeartbeats 1000000
namespace K31
open PySem PySem.Spec PyProof.Rows L2
theorem perm_erase {α : Type} : ∀ {l : List α} {j : Nat} {a : α}, l[j]? = some a → (a :: l.eraseIdx j).Perm l
  | [], _, _, h => by simp at h
  | x :: l, 0, a, h => by
    simp at h
    rw [h]
    exact List.Perm.refl _
  | x :: l, j + 1, a, h => by
    have h2 : l[j]? = some a := by simpa using h
    have ih := perm_erase h2
    rw [List.eraseIdx_cons_succ]
    exact (List.Perm.swap x a _).trans (ih.cons x)
theorem Paired.erase {α β : Type} {F : α → β → Prop} : ∀ {l : List α} {m : List β} (j : Nat), Paired F l m → Paired F (l.eraseIdx j) (m.eraseIdx j)
  | _, _, j, .nil => by simpa using Paired.nil
  | _, _, 0, .cons r t => t
  | _, _, j + 1, .cons r t => .cons r (Paired.erase j t)
theorem isTurn_fracOf {a b : Int} (h0 : 0 ≤ a) (h1 : a < b) : IsTurn (fracOf a b) := by
  have hb : 0 < b := by omega
  have hg := gcd_pos (a := a) hb
  have d1 := Int.gcd_dvd_left a b
  have d2 := Int.gcd_dvd_right a b
  have e1 := Int.ediv_mul_cancel d1
  have e2 := Int.ediv_mul_cancel d2
  refine ⟨(fracOf_ok (k := a.natAbs + b.natAbs) hb ?_ ?_).1, Int.ediv_nonneg h0 (by omega), ?_, ?_⟩
  · exact Nat.lt_of_le_of_lt (Nat.le_add_right _ _) Nat.lt_two_pow_self
  · exact Nat.lt_of_le_of_lt (Nat.le_add_left _ _) Nat.lt_two_pow_self
  · show a / (Int.gcd a b : Int) < b / (Int.gcd a b : Int)
    refine Int.lt_of_mul_lt_mul_right (a := (Int.gcd a b : Int)) ?_ (by omega)
    rw [e1, e2]
    exact h1
  · show Nat.gcd (a / (Int.gcd a b : Int)).natAbs (b / (Int.gcd a b : Int)).natAbs = 1
    have n1 : (a / (Int.gcd a b : Int)).natAbs = a.natAbs / Nat.gcd a.natAbs b.natAbs := by
      rw [Int.natAbs_ediv_of_dvd d1]
      rfl
    have n2 : (b / (Int.gcd a b : Int)).natAbs = b.natAbs / Nat.gcd a.natAbs b.natAbs := by
      rw [Int.natAbs_ediv_of_dvd d2]
      rfl
    rw [n1, n2]
    exact Nat.gcd_div_gcd_div_gcd_of_pos_right (by omega)
section
variable {P : Program} {w : World} {K : PySem.W.Frag} {mg : Str → Option Value} {base : Heap}
def sp_shuffled : Sp := fun vs H Q _ => ∃ (α : Type) (R : Rp α) (u : Addr) (c : Nat) (v : V) (l : List α), vs = [.ref u, v] ∧ TM R ∧ rList R H v l ∧ v ≠ .ref u ∧ UrnAt H u c ∧ c ≤ 500 ∧ l.length ≤ 100 ∧
  ∀ H' v' l', SU u H H' → UrnAt H' u (c + l.length) → NewL R H H' v' l' → l'.Perm l → Q v' H'
theorem df__law_shuffled (T : Txt K mg) : Df P w K mg base 2 "_law_shuffled" ["_law_urn_here", "_law_things"] sp_shuffled := by
  have D__law_pick := df__law_pick (P := P) (w := w) (base := base) T
  refine Df.mk T.a__law_shuffled sc__law_shuffled (fun _ _ _ _ _ _ us hl => match us, hl with | [_, _], _ => rfl) (fun vs H Q E h => ?_) (fun f cdv A outer s H vs Q E hr h => ?_)
  · obtain ⟨_, _, _, _, _, _, rfl, _⟩ := h
    rfl
  · obtain ⟨α, R, u, c, _, l, rfl, mR, ⟨a, xs, rfl, ha, hp⟩, hne, hu, hc, hn, q⟩ := h
    refine ⟨_, (pss_cons (ps_set (i := 2) sc__law_shuffled.nd rfl (.inl rfl) (pe_callTy call_list_of (by rfl) T.z_list bt_list (pa_cons (pv 1) pa_nil)))
  (pss_cons (ps_set (i := 3) sc__law_shuffled.nd rfl (.inl rfl) (pe_lst pa_nil))
  (pss_cons (ps_for PassesOwn.never rfl (pi_range1 (by rfl) T.z_range (pa_cons (pe_callB call_len_seq (by rfl) T.z_len bt_len (pa_cons (pv 1) pa_nil)) pa_nil)) (pg_name (i := 4) sc__law_shuffled.nd rfl (.inl rfl))
  (pss_one (ps_expr (pe_bm PySem.F.plainAttrs_list PySem.F.slot_list_append PySem.F.type_list_append mt_append (pv 3) (pa_cons (pe_bm PySem.F.plainAttrs_list PySem.F.slot_list_pop PySem.F.type_list_pop mt_popAt (pv 2) (pa_cons (pe_df D__law_pick hr (by decide) (by rfl) (pa_cons (pv 0) (pa_cons (pe_callB call_len_seq (by rfl) T.z_len bt_len (pa_cons (pv 2) pa_nil)) pa_nil))) pa_nil)) pa_nil)))))
  (pss_one (ps_ret (pv 3)))))), ?_⟩
    have hau : a ≠ u := fun z => hne (by rw [z])
    have hlen : xs.length = l.length := PySem.Paired.length hp
    refine ⟨_, rfl, a, xs, rfl, .inl (SqL_of ha), fun lf nlf => ⟨Nat.zero_le _, fun fo nfo => ?_⟩⟩
    have s1 := same_upd (o := .lst xs) nlf
    have s2 := same_upd (o := .lst []) nfo
    have hlf : upd (upd H lf (.lst xs)) fo (.lst []) lf = some (.lst xs) := s2 _ _ upd_same
    have hlfo : lf ≠ fo := ne_of_none upd_same nfo
    have hlu : lf ≠ u := by
      obtain ⟨ys, hy⟩ := hu.lst
      exact (ne_of_none hy nlf).symm
    have hfu : fo ≠ u := by
      obtain ⟨ys, hy⟩ := hu.lst
      exact (ne_of_none (s1 _ _ hy) nfo).symm
    have nfoH : H fo = none := s1.free nfo
    refine ⟨_, rfl, a, xs, rfl, .inl (SqL_of (s2 _ _ (s1 _ _ ha))), ?_⟩
    refine ⟨_, rfl, by have := small100 hn; have : (sizeLine : Nat) < 2 ^ 63 := line63; omega, ?_, for_it (walk_range (n := ((xs.length : Nat) : Int).toNat))
      (fun k σ H' => ∃ y4, σ = [some (.ref u), some (.ref a), some (.ref lf), some (.ref fo), y4] ∧ SU u H H' ∧ UrnAt H' u (c + k) ∧ ∃ ls fs rem done, H' lf = some (.lst ls) ∧ H' fo = some (.lst fs) ∧ Paired (R H') ls rem ∧ Paired (R H') fs done ∧ (done ++ rem).Perm l ∧ done.length = k)
      ⟨none, rfl, SU.of (s1.trans s2), hu.same (s1.trans s2), xs, [], l, [], hlf, upd_same, Paired.mono mR.mono (s1.trans s2) hp, .nil, List.Perm.refl _, rfl⟩ (fun _ _ _ _ _ => trivial) (fun k x σ H1 H1' hk h hy => ?_) (fun σ H1 h => ?_)⟩
    · have := hn
      show ((xs.length : Nat) : Int) < 2 ^ 62
      have : (2 : Int) ^ 62 = 4611686018427387904 := by decide
      omega
    · obtain ⟨y4, rfl, sU, hU, ls, fs, rem, done, hls, hfs, hpl, hpf, hperm, hdl⟩ := h
      obtain ⟨rfl, hxv⟩ := hy
      have hk' : k < xs.length := by
        have : ((xs.length : Nat) : Int).toNat = xs.length := by omega
        omega
      have hremlen : rem.length = l.length - k := by
        have := hperm.length_eq
        rw [List.length_append] at this
        omega
      have hlsl : ls.length = rem.length := PySem.Paired.length hpl
      refine ⟨_, rfl, .inl ⟨rfl, _, SqL_of hfs⟩, _, rfl, .inl ⟨rfl, _, SqL_of hls⟩, _, rfl, _, rfl, lf, ls, rfl, .inl (SqL_of hls), u, (ls.length : Int), c + k, rfl, hU, by omega, by omega, ?_, fun o r ho hr0 hrm => ?_⟩
      · unfold Bd
        show ls.length < 2 ^ 8000
        have : (100 : Nat) < 2 ^ 8000 := Nat.lt_of_lt_of_le (show 100 < 2 ^ 7 by decide) (Nat.pow_le_pow_right (by decide) (by decide))
        omega
      have hU1 : UrnAt (upd H1' u o) u (c + k + 1) := .put ho
      have hls1 : upd H1' u o lf = some (.lst ls) := by
        rw [upd_ne hlu]
        exact hls
      have hfs1 : upd H1' u o fo = some (.lst fs) := by
        rw [upd_ne hfu]
        exact hfs
      have hrn : r.toNat < ls.length := by omega
      have hget := List.getElem?_eq_getElem hrn
      obtain ⟨x0, hx0, rx0⟩ := Paired.get hpl hget
      refine ⟨lf, ls, r, r.toNat, ls[r.toNat], rfl, rfl, hls1, by omega, by have := small100 hn; have : (sizeLine : Nat) < 2 ^ 63 := line63; omega, ?_, hget, ?_⟩
      · exact seqIndex_of hr0 (by omega)
      have ts1 : TSame H1' (upd H1' u o) := .set fun ys z => by
        obtain ⟨zs, hz⟩ := hU.lst
        rw [hz] at z
        cases z
      have ts2 : TSame (upd H1' u o) (upd (upd H1' u o) lf (.lst (ls.eraseIdx r.toNat))) := .lst hls1
      have hfs2 : upd (upd H1' u o) lf (.lst (ls.eraseIdx r.toNat)) fo = some (.lst fs) := by
        rw [upd_ne hlfo.symm]
        exact hfs1
      have ts3 : TSame (upd (upd H1' u o) lf (.lst (ls.eraseIdx r.toNat))) (upd (upd (upd H1' u o) lf (.lst (ls.eraseIdx r.toNat))) fo (.lst (fs ++ [ls[r.toNat]]))) := .lst hfs2
      have ts := (ts1.trans ts2).trans ts3
      have hfl : fs.length = done.length := PySem.Paired.length hpf
      refine ⟨fo, fs, _, rfl, rfl, hfs2, small200 (by omega), _, rfl, ?_, ?_, ls.eraseIdx r.toNat, fs ++ [ls[r.toNat]], rem.eraseIdx r.toNat, done ++ [x0], ?_, upd_same, ?_, ?_, ?_, ?_⟩
      · refine SU.put nfoH (SU.put nlf (sU.trans ?_))
        exact SU.upd
      · obtain ⟨o', h1, h2⟩ := hU1
        refine ⟨o', ?_, h2⟩
        rw [upd_ne hfu.symm, upd_ne hlu.symm]
        exact h1
      · rw [upd_ne hlfo, upd_same]
      · exact Paired.tm mR ts (Paired.erase _ hpl)
      · exact Paired.app (Paired.tm mR ts hpf) (.cons (mR.go ts rx0) .nil)
      · refine List.Perm.trans ?_ hperm
        rw [List.append_assoc]
        exact (perm_erase hx0).append_left done
      · rw [List.length_append, hdl]
        rfl
    · obtain ⟨y4, rfl, sU, hU, ls, fs, rem, done, hls, hfs, hpl, hpf, hperm, hdl⟩ := h
      have e : ((xs.length : Nat) : Int).toNat = xs.length := by omega
      rw [e] at hU hdl
      rw [hlen] at hU hdl
      have hrem : rem = [] := by
        have := hperm.length_eq
        rw [List.length_append] at this
        exact List.length_eq_zero_iff.mp (by omega)
      rw [hrem, List.append_nil] at hperm
      exact ⟨_, rfl, q _ _ done sU hU ⟨fo, fs, rfl, nfoH, hfs, hpf⟩ hperm⟩
def sp_drawn : Sp := fun vs H Q _ => ∃ (u : Addr) (c : Nat), vs = [.ref u] ∧ UrnAt H u c ∧ c ≤ 900 ∧ ∀ H' v t, SU u H H' → UrnAt H' u (c + 3) → rTurn H' v t → IsTurn t → TOk 84 t → Q v H'
theorem df__law_drawn_turn (T : Txt K mg) : Df P w K mg base 3 "_law_drawn_turn" ["_law_urn_here"] sp_drawn := by
  have D__law_pick := df__law_pick (P := P) (w := w) (base := base) T
  have D__law_fraction := df__law_fraction (P := P) (w := w) (base := base) T
  refine Df.mk T.a__law_drawn_turn sc__law_drawn_turn (fun _ _ _ _ _ _ us hl => match us, hl with | [_], _ => rfl) (fun vs H Q E h => ?_) (fun f cdv A outer s H vs Q E hr h => ?_)
  · obtain ⟨_, _, rfl, _⟩ := h
    rfl
  · obtain ⟨u, c, rfl, hu, hc, q⟩ := h
    refine ⟨_, (pss_cons (ps_set (i := 1) sc__law_drawn_turn.nd rfl (.inl rfl) (pe_op op_add pe_int (pe_df D__law_pick hr (by decide) (by rfl) (pa_cons (pv 0) (pa_cons (pe_ix (ix_listK (K := K) rfl) (pe_lst (pa_cons pe_int (pa_cons pe_int (pa_cons pe_int (pa_cons (pe_op op_powW pe_int pe_int) (pa_cons (pe_op op_powW pe_int pe_int) (pa_cons (pe_op op_powW pe_int pe_int) pa_nil))))))) (pe_df D__law_pick hr (by decide) (by rfl) (pa_cons (pv 0) (pa_cons pe_int pa_nil))) (fun _ _ => rfl)) pa_nil)))))
  (pss_one (ps_ret (pe_df D__law_fraction hr (by decide) (by rfl) (pa_cons (pe_df D__law_pick hr (by decide) (by rfl) (pa_cons (pv 0) (pa_cons (pv 1) pa_nil))) (pa_cons (pv 1) pa_nil)))))), ?_⟩
    have b10 : Bd 4 (10 : Int) := by
      unfold Bd
      decide
    have b6 : Bd 8000 (6 : Int) := Bd.mono (a := 3) (by unfold Bd; decide) (by decide)
    obtain ⟨ns, hns⟩ : ∃ ns : List Int, ns = [60, 60, 2, 10 ^ (4 : Int).toNat, 10 ^ (15 : Int).toNat, 10 ^ (25 : Int).toNat] := ⟨_, rfl⟩
    have hall : ∀ n ∈ ns, 0 < n ∧ n ≤ 10000000000000000000000000 := by
      rw [hns]
      decide
    have e0 : ([V.int 60, .int 60, .int 2, .int (10 ^ (4 : Int).toNat), .int (10 ^ (15 : Int).toNat), .int (10 ^ (25 : Int).toNat)] : List V) = ns.map V.int := by
      rw [hns]
      rfl
    have hnl : ns.length = 6 := by
      rw [hns]
      rfl
    refine ⟨_, rfl, _, _, rfl, rfl, b10.powOk, _, _, rfl, rfl, b10.powOk, _, _, rfl, rfl, b10.powOk, by show 6 ≤ sizeLine; decide, fun l nl => ?_⟩
    have sl := same_upd (o := .lst [V.int 60, .int 60, .int 2, .int (10 ^ (4 : Int).toNat), .int (10 ^ (15 : Int).toNat), .int (10 ^ (25 : Int).toNat)]) nl
    have hlu : l ≠ u := by
      obtain ⟨ys, hy⟩ := hu.lst
      exact (ne_of_none hy nl).symm
    refine ⟨_, rfl, u, 6, c, rfl, hu.same sl, by omega, by decide, b6, fun o r ho h0 h1 => ?_⟩
    have hrn : r.toNat < ns.length := by omega
    have hmem : ns[r.toNat] ∈ ns := List.getElem_mem hrn
    obtain ⟨g1, g2⟩ := hall _ hmem
    have bk : ∀ z : Int, 0 ≤ z → z ≤ 10000000000000000000000000 → Bd 84 z := fun z z0 z1 => by
      unfold Bd
      have : (2 : Nat) ^ 84 = 19342813113834066795298816 := by decide
      omega
    have hU1 : UrnAt (upd (upd H l (.lst [V.int 60, .int 60, .int 2, .int (10 ^ (4 : Int).toNat), .int (10 ^ (15 : Int).toNat), .int (10 ^ (25 : Int).toNat)])) u o) u (c + 1) := .put ho
    have hl1 : upd (upd H l (.lst [V.int 60, .int 60, .int 2, .int (10 ^ (4 : Int).toNat), .int (10 ^ (15 : Int).toNat), .int (10 ^ (25 : Int).toNat)])) u o l = some (.lst (ns.map V.int)) := by
      rw [upd_ne hlu, upd_same, e0]
    refine ⟨l, _, r, .int ns[r.toNat], rfl, rfl, SqL_of hl1, atI_pos h0 (by rw [List.getElem?_map, List.getElem?_eq_getElem hrn]; rfl), u, _, c + 1, rfl, hU1, by omega, g1, (bk _ (by omega) g2).mono (by decide), fun o2 r2 ho2 h20 h21 => ?_⟩
    have bb : Bd 84 (1 + r2) := bk _ (by omega) (by omega)
    refine ⟨_, _, rfl, rfl, ?_⟩
    refine ⟨_, rfl, _, rfl, u, 1 + r2, c + 2, rfl, .put ho2, by omega, by omega, bb.mono (by decide), fun o3 r3 ho3 h30 h31 => ⟨_, rfl, r3, 1 + r2, rfl, by omega, bb.mono (by decide), fun H' v s4 r4 => ?_⟩⟩
    refine q H' v _ ((((SU.of sl).trans SU.upd).trans SU.upd).trans SU.upd |>.trans (SU.of s4)) (UrnAt.same s4 (.put ho3)) r4 (isTurn_fracOf h30 h31) ?_
    exact fracOf_ok (by omega) (bb.le h30 (by omega)) bb
def sp_says : Sp := fun vs H Q _ => ∃ a b : Bool, vs = [.bl a, .bl b] ∧ Q (.bl (decide (a = b))) H
theorem df__law_says (T : Txt K mg) : Df P w K mg base 1 "_law_says" ["_law_thing", "_law_due"] sp_says := by
  refine Df.mk T.a__law_says sc__law_says (fun _ _ _ _ _ _ us hl => match us, hl with | [_, _], _ => rfl) (fun vs H Q E h => ?_) (fun f cdv A outer s H vs Q E hr h => ?_)
  · obtain ⟨_, _, rfl, _⟩ := h
    rfl
  · obtain ⟨a, b, rfl, q⟩ := h
    refine ⟨_, (pss_one (ps_ret (pe_ifExp (pt_val (pv 1)) (pe_cmpR op_isBl (pv 0) pe_bl (nomark _)) (pe_cmpR op_isBl (pv 0) pe_bl (nomark _))))), ?_⟩
    cases b with
    | true => exact ⟨_, rfl, true, rfl, iteT ⟨_, rfl, a, true, rfl, rfl, q⟩⟩
    | false => exact ⟨_, rfl, false, rfl, iteF ⟨_, rfl, a, false, rfl, rfl, q⟩⟩
/-! ### _law_key -/
def bump (f : List Int) (j : Nat) : List Int := f.set j (f.getD j 0 + 1)
def diffs (n s : Nat) (f : List Int) : List Int := (List.range n).map fun j => f.getD ((j + n - s) % n) 0 - f.getD j 0
def primes17 : List Nat := [2, 3, 5, 7, 11, 13, 17, 19, 23, 29, 31, 37, 41, 43, 47, 53, 59]
def keyStep (n : Nat) (f : List Int) (p : Nat) : List Int := if n % p = 0 then diffs n (n / p) f else f
@[irreducible] def keyL (n : Nat) (js : List Nat) : List Int := primes17.foldl (keyStep n) (js.foldl bump (List.replicate n 0))
theorem keyL_eq (n : Nat) (js : List Nat) : keyL n js = primes17.foldl (keyStep n) (js.foldl bump (List.replicate n 0)) := by
  unfold keyL
  rfl
theorem bump_len (f : List Int) (j : Nat) : (bump f j).length = f.length := List.length_set ..
theorem keyStep_len {n : Nat} (f : List Int) (p : Nat) (h : f.length = n) : (keyStep n f p).length = n := by
  unfold keyStep
  split
  · unfold diffs
    rw [List.length_map, List.length_range]
  · exact h
theorem keyFold_len {n : Nat} : ∀ (ps : List Nat) (f : List Int), f.length = n → (ps.foldl (keyStep n) f).length = n
  | [], f, h => h
  | p :: ps, f, h => keyFold_len ps _ (keyStep_len f p h)
abbrev rII : Rp (Int × Int) := rPair rInt rInt
theorem rII_tm : TM rII := rPair_tm rInt_tm rInt_tm
def sp_key : Sp := fun vs H Q _ => ∃ v n js, vs = [v, .int ((n : Nat) : Int)] ∧ rList rII H v (js.map fun j : Nat => ((j : Int), (1 : Int))) ∧ 0 < n ∧ n ≤ 300 ∧ (∀ j ∈ js, j < n) ∧
  ∀ H' v', Same H H' → NewL rInt H H' v' (keyL n js) → Q v' H'
theorem df__law_key (T : Txt K mg) : Df P w K mg base 1 "_law_key" ["_law_rows", "_law_n"] sp_key := by
  refine Df.mk T.a__law_key sc__law_key (fun _ _ _ _ _ _ us hl => match us, hl with | [_, _], _ => rfl) (fun vs H Q E h => ?_) (fun f cdv A outer s H vs Q E hr h => ?_)
  · obtain ⟨_, _, _, rfl, _⟩ := h
    rfl
  · obtain ⟨_, n, js, rfl, ⟨a, xs, rfl, ha, hp⟩, hn0, hn, hj, q⟩ := h
    refine ⟨_, (pss_cons (ps_set (i := 2) sc__law_key.nd rfl (.inr rfl) (pe_op op_rep (pe_lst (pa_cons pe_int pa_nil)) (pv 1)))
  (pss_cons (ps_for PassesOwn.never rfl (pi_listK (K := K) rfl (pv 0)) (pg_tup rfl (pgs_cons (pg_name (i := 3) sc__law_key.nd rfl (.inl rfl)) (pgs_cons (pg_name (i := 4) sc__law_key.nd rfl (.inl rfl)) pgs_nil)))
  (pss_one (ps_asg (pe_op op_add (pe_ix (ix_listK (K := K) rfl) (pv 2) (pv 3) (fun _ _ => rfl)) (pv 4)) (pg_sub (pv 2) (pv 3) set_list))))
  (pss_cons (ps_for PassesOwn.never rfl (pi_tup (pe_tup (pa_cons pe_int (pa_cons pe_int (pa_cons pe_int (pa_cons pe_int (pa_cons pe_int (pa_cons pe_int (pa_cons pe_int (pa_cons pe_int (pa_cons pe_int (pa_cons pe_int (pa_cons pe_int (pa_cons pe_int (pa_cons pe_int (pa_cons pe_int (pa_cons pe_int (pa_cons pe_int (pa_cons pe_int pa_nil))))))))))))))))))) (pg_name (i := 5) sc__law_key.nd rfl (.inl rfl))
  (pss_one (ps_if (pt_cmpR op_eq (pe_op op_mod (pe_callTy call_int1 (by rfl) T.z_int bt_int (pa_cons (pv 1) pa_nil)) (pv 5)) pe_int (nomark _)) (pss_cons (ps_set (i := 6) sc__law_key.nd rfl (.inr rfl) (pe_op op_fdivW (pv 1) (pv 5)))
  (pss_one (ps_set (i := 2) sc__law_key.nd rfl (.inr rfl) (pe_lc (own := [("_law_j", 3)]) (g := gName 3) (tt := tYes) (by rfl) sc__law_key.nd (pi_range1 (by rfl) T.z_range (pa_cons (pv 1) pa_nil)) (blkOk_by (own := [("_law_j", 3)]) (N := ["_law_rows", "_law_n", "_law_found", "_law_j", "_law_number", "_law_p", "_law_step"]) (sc := defScope s__law_key) (by decide +kernel)) (fun _ _ _ _ _ => (pg_name (i := 3) sc__law_key.nd rfl (.inl rfl))) (fun _ _ _ _ _ => pts_nil) (fun _ _ _ _ _ => (pe_op op_sub (pe_ix (ix_listK (K := K) rfl) (pv 2) (pe_op op_sub (pv 3) (pv 6)) (fun _ _ => rfl)) (pe_ix (ix_listK (K := K) rfl) (pv 2) (pv 3) (fun _ _ => rfl)))))))) pss_nil)))
  (pss_one (ps_ret (pv 2)))))), ?_⟩
    refine ⟨by show 1 ≤ sizeLine; decide, fun z nz => ?_⟩
    have sz := same_upd (o := .lst [.int 0]) nz
    have hns : n ≤ sizeLine := Nat.le_trans hn (by decide)
    refine ⟨_, rfl, z, (n : Int), [.int 0], rfl, rfl, upd_same, by omega, by have := line63; omega, by show 1 * (n : Int).toNat ≤ sizeLine; omega, fun f0 nf => ?_⟩
    have erep : ((List.replicate (n : Int).toNat [V.int 0]).flatten) = (List.replicate n (0 : Int)).map V.int := by
      rw [show (n : Int).toNat = n by omega]
      clear hn hns hn0 hj q
      induction n with
      | zero => rfl
      | succ n ih =>
        rw [List.replicate_succ, List.replicate_succ, List.flatten_cons, List.map_cons, ih]
        rfl
    rw [erep]
    have sf := same_upd (o := .lst ((List.replicate n (0 : Int)).map V.int)) nf
    have s0 := sz.trans sf
    have nfH : H f0 = none := sz.free nf
    have hlx : xs.length = js.length := by rw [PySem.Paired.length hp, List.length_map]
    refine ⟨_, rfl, a, rfl, ⟨xs, SqL_of (s0 _ _ ha)⟩, for_it (walk_list (xs := xs))
      (fun i σ H' => ∃ y3 y4 y5 y6, σ = [some (.ref a), some (.int (n : Int)), some (.ref f0), y3, y4, y5, y6] ∧ Same H H' ∧ H' f0 = some (.lst (((js.take i).foldl bump (List.replicate n 0)).map V.int)))
      ⟨none, none, none, none, rfl, s0, upd_same⟩ (fun i σ H' _ h => ?_) (fun i x σ H1 H1' hi h hy => ?_) (fun σ H1 h => ?_)⟩
    · obtain ⟨_, _, _, _, _, s1, _⟩ := h
      exact SqL_of (s1 _ _ ha)
    · obtain ⟨y3, y4, y5, y6, rfl, s1, hf⟩ := h
      obtain ⟨rfl, hx⟩ := hy
      obtain ⟨r, hr1, p, x1, x2, rfl, hp1, r1, r2⟩ := Paired.get hp hx
      rw [List.getElem?_map] at hr1
      obtain ⟨j, hjs, rfl⟩ := Option.map_eq_some_iff.mp hr1
      obtain rfl : x1 = .int (j : Int) := r1
      obtain rfl : x2 = .int 1 := r2
      have hjn := hj j (List.mem_of_getElem? hjs)
      have hlen : ((js.take i).foldl bump (List.replicate n 0)).length = n := by
        rw [foldl_len bump_len]
        simp
      rw [take_fold hjs]
      generalize (js.take i).foldl bump (List.replicate n 0) = f1 at hf hlen ⊢
      refine ⟨p, _, rfl, SqT_of (s1 _ _ hp1), rfl, _, _, rfl, _, _, rfl, rfl, ?_⟩
      refine ⟨_, rfl, _, rfl, f0, _, _, _, rfl, rfl, SqL_of hf, atI_nat (get_map_int (by omega)), _, rfl, _, _, rfl, rfl, _, rfl, _, rfl, f0, _, _, j, rfl, rfl, hf, ?_, ?_⟩
      · unfold ixN
        rw [if_pos (by omega), if_pos (by rw [List.length_map]; omega)]
        rfl
      · refine ⟨_, _, _, _, rfl, Same.put nfH s1, ?_⟩
        rw [upd_same]
        unfold bump
        rw [List.map_set]
    · obtain ⟨y3, y4, y5, y6, rfl, s1, hf⟩ := h
      rw [hlx, List.take_length] at hf
      have hlen0 : (js.foldl bump (List.replicate n 0)).length = n := by
        rw [foldl_len bump_len]
        simp
      refine ⟨by show 17 ≤ sizeLine; decide, fun t nt => ?_⟩
      have st := same_upd (o := .tup (primes17.map fun p : Nat => V.int (p : Int))) nt
      refine ⟨t, rfl, ⟨_, SqT_of upd_same⟩, for_it (walk_tup (xs := primes17.map fun p : Nat => V.int (p : Int)))
        (fun i σ H' => ∃ y3 y4 y5 y6 f, σ = [some (.ref a), some (.int (n : Int)), some (.ref f), y3, y4, y5, y6] ∧ Same (upd H1 t (.tup (primes17.map fun p : Nat => V.int (p : Int)))) H' ∧ H f = none ∧ H' f = some (.lst (((primes17.take i).foldl (keyStep n) (js.foldl bump (List.replicate n 0))).map V.int)))
        ⟨y3, y4, y5, y6, f0, rfl, Same.refl _, nfH, st _ _ hf⟩ (fun i σ H' _ h => ?_) (fun i x σ H2 H2' hi h hy => ?_) (fun σ H2 h => ?_)⟩
      · obtain ⟨_, _, _, _, _, _, s2, _⟩ := h
        exact SqT_of (s2 _ _ upd_same)
      · obtain ⟨y3, y4, y5, y6, f, rfl, s2, nfH2, hf2⟩ := h
        obtain ⟨rfl, hx⟩ := hy
        rw [List.getElem?_map] at hx
        obtain ⟨p, hpp, rfl⟩ := Option.map_eq_some_iff.mp hx
        have hpm : p ∈ primes17 := List.mem_of_getElem? hpp
        have hp2 : 2 ≤ p ∧ p ≤ 59 := by
          have : ∀ p ∈ primes17, 2 ≤ p ∧ p ≤ 59 := by decide
          exact this p hpm
        have hlen1 : ((primes17.take i).foldl (keyStep n) (js.foldl bump (List.replicate n 0))).length = n := keyFold_len _ _ hlen0
        rw [take_fold hpp]
        generalize (primes17.take i).foldl (keyStep n) (js.foldl bump (List.replicate n 0)) = f1 at hf2 hlen1 ⊢
        have bp : Bd 6 (p : Int) := by
          unfold Bd
          show p < 64
          omega
        refine ⟨_, rfl, .inl ⟨_, rfl, _, rfl, _, _, rfl, rfl, (show (0 : Int) < (p : Int) by omega), rfl, _, rfl, ite2 (fun h => ?_) (fun h => ?_)⟩⟩
        · have hmod : n % p = 0 := by
            have h1 : (n : Int) % (p : Int) = 0 := V.int.inj (of_decide_eq_true h)
            omega
          have hdiv : (n : Int) / (p : Int) = ((n / p : Nat) : Int) := rfl
          have hle : n / p ≤ n := Nat.div_le_self n p
          refine ⟨_, rfl, _, rfl, _, _, rfl, rfl, bp.divOk (by omega), ?_⟩
          have e30 : (2 : Int) ^ 62 = 4611686018427387904 := by decide
          refine ⟨_, rfl, (n : Int), rfl, by omega, by omega, fun D nD => ?_⟩
          refine lc_fm (walk_range (lo := 0) (n := (n : Int).toNat)) rInt_tm (fun j => some (f1.getD ((j + n - n / p) % n) 0 - f1.getD j 0)) (by omega) nD (fun _ _ => trivial) (fun j x H3 H3' hj s3 hy Qe Ne hq hne => ?_) (fun H3 s3 hL => ?_)
          · obtain ⟨rfl, hxv⟩ := hy
            have hjn : j < n := by omega
            obtain rfl : x = .int (j : Int) := by
              rw [hxv]
              show V.int (0 + (j : Int)) = V.int (j : Int)
              rw [Int.zero_add]
            have hf3 := s3 _ _ hf2
            refine ⟨rfl, yes_go ⟨_, rfl, _, rfl, _, rfl, _, _, rfl, rfl, f, _, _, .int (f1.getD ((j + n - n / p) % n) 0), rfl, rfl, SqL_of hf3, ?_, _, rfl, _, rfl, f, _, _, _, rfl, rfl, SqL_of hf3, atI_nat (get_map_int (by omega)), _, _, rfl, rfl, hq _ _ _ (Same.refl _) rfl rfl⟩⟩
            have hixs : ∀ s : Nat, s ≤ n → ixN (f1.map V.int).length ((j : Int) - (s : Int)) = some ((j + n - s) % n) := fun s hs => by
              unfold ixN
              rw [List.length_map, hlen1]
              by_cases hge : s ≤ j
              · rw [if_pos (by omega), if_pos (by omega)]
                have : (j + n - s) % n = j - s := by
                  rw [show j + n - s = (j - s) + n by omega, Nat.add_mod_right]
                  exact Nat.mod_eq_of_lt (by omega)
                rw [this]
                congr 1
                omega
              · rw [if_neg (by omega), if_pos (by omega)]
                have : (j + n - s) % n = j + n - s := Nat.mod_eq_of_lt (by omega)
                rw [this]
                congr 1
                omega
            have hix := hixs (n / p) hle
            unfold atI
            show (ixN (f1.map V.int).length ((j : Int) - ((n / p : Nat) : Int))).bind _ = _
            rw [hix]
            show (f1.map V.int)[(j + n - n / p) % n]? = _
            exact get_map_int (by rw [hlen1]; exact Nat.mod_lt _ hn0)
          · obtain ⟨g, ys, e1, ng, hg, hpg⟩ := hL
            cases e1
            have e2 := paired_int hpg
            subst e2
            refine ⟨_, _, _, _, D, rfl, s2.trans s3, ?_, ?_⟩
            · exact (s1.trans (st.trans s2)).free nD
            · rw [hg]
              have : keyStep n f1 p = (List.range n).map fun j => f1.getD ((j + n - n / p) % n) 0 - f1.getD j 0 := by
                unfold keyStep
                rw [if_pos hmod]
                rfl
              rw [this, show (n : Int).toNat = n by omega]
              congr 2
              rw [List.filterMap_eq_map']
        · have hmod : ¬ n % p = 0 := fun z => h (decide_eq_true (congrArg V.int (show (n : Int) % (p : Int) = 0 by omega)))
          refine ⟨_, _, _, _, f, rfl, s2, nfH2, ?_⟩
          have : keyStep n f1 p = f1 := by
            unfold keyStep
            rw [if_neg hmod]
          rw [this]
          exact hf2
      · obtain ⟨y3, y4, y5, y6, f, rfl, s2, nfH2, hf2⟩ := h
        rw [List.length_map, List.take_length, ← keyL_eq] at hf2
        refine ⟨_, rfl, q _ _ (s1.trans (st.trans s2)) ⟨f, _, rfl, nfH2, hf2, ?_⟩⟩
        clear hf2
        induction (keyL n js) with
        | nil => exact .nil
        | cons x r ih => exact .cons rfl ih
end
end K31

set_option Elab.async false
set_option linter.all false
set_option maxRecDepth 100000
set_option maxHeartbeats 4000000
/-! a set of texts: made of a list, sorted -/
namespace K31
open PySem PySem.Spec PyProof.Rows L2
/-! ### what a set of ints is -/
def keyOx (e : Int × Value) : Str := match e.2 with | .str k _ => k | _ => Str.empty
def GoodX (w : World) (e : Int × Value) : Prop := ∃ k tk, e.2 = Value.str k tk ∧ e.1 = hashStr w k

/-- the set of ints at a: S its members, n their number; its table rises and can be walked -/
def TexR (w : World) (h : Heap) (a : Addr) (S : Str → Bool) (n : Nat) : Prop :=
  ∃ o es ep t, h.get? a = some o ∧ o.ExactSet ∧ o.data = .set es ep t ∧ (∀ e ∈ es.toList, GoodX w e) ∧ (es.toList.map keyOx).Nodup ∧ (∀ k, S k = true ↔ k ∈ es.toList.map keyOx) ∧
    es.size < scanBound ∧ t.fits es.size = true ∧ es.size = n ∧ Ris t.place.toList ∧ (w.params.followText "set-order" = true ∨ t.led = true)

section
variable {P : Program} {w : World} {h h' : Heap} {a : Addr} {S : Str → Bool} {n : Nat}

theorem TexR.at (R : TexR w h a S n) (k : ∀ o, h.get? a = some o → h'.get? a = some o) : TexR w h' a S n := by
  obtain ⟨o, es, ep, t, ho, r⟩ := R
  exact ⟨o, es, ep, t, k o ho, r⟩
theorem TexR.lt (R : TexR w h a S n) : a < h.objs.size := by
  obtain ⟨o, es, ep, t, ho, r⟩ := R
  exact Heap.lt_size ho
theorem TexR.congr {S' : Str → Bool} (R : TexR w h a S n) (e : ∀ k, S' k = S k) : TexR w h a S' n := by
  have q : S' = S := funext e
  rw [q]; exact R
theorem goodx_elems {l : List (Int × Value)} (g : ∀ e ∈ l, GoodX w e) : ElemsOf (PySem.strKind P w) l := fun e he => by
  obtain ⟨k, tk, h1, h2⟩ := g e he
  exact ⟨⟨k, by rw [h1]; exact strKind_is P w k tk, h2⟩, by rw [h1] <;> rfl⟩
theorem goodx_is {e : Int × Value} (g : GoodX w e) (k : Str) : (PySem.strKind P w).is k e.2 = true ↔ keyOx e = k := by
  obtain ⟨k0, tk, h1, _⟩ := g
  unfold keyOx
  rw [h1]
  show ((k0 == k) = true) ↔ k0 = k
  exact beq_iff_eq
theorem goodx_mem {l : List (Int × Value)} (g : ∀ e ∈ l, GoodX w e) (k : Str) : k ∈ l.map keyOx ↔ ∃ e ∈ l, (PySem.strKind P w).is k e.2 = true := by
  rw [List.mem_map]
  constructor
  · rintro ⟨e, he, q⟩
    exact ⟨e, he, (goodx_is (g e he) k).2 q⟩
  · rintro ⟨e, he, q⟩
    exact ⟨e, he, (goodx_is (g e he) k).1 q⟩
theorem TexR.setOf (R : TexR w h a S n) : h.SetOf (PySem.strKind P w) a S n := by
  obtain ⟨o, es, ep, t, ho, hx, hd, g, nd, hm, hb, hf, hn, _⟩ := R
  exact ⟨o, es, ep, t, ho, hx, hd, goodx_elems g, fun k => (hm k).trans (goodx_mem g k), hb, hf, hn⟩
end

section
variable {P : Program} {w : World} {A : Around} {E : Value → Shared → Prop} {s : Shared} {a : Addr} {S : Str → Bool} {n : Nat}

/-! ### add -/
theorem store_atX {h : Heap} {a : Addr} {o : Obj} {es es' : Array (Int × Value)} {ep : Nat} {t t' : SetTable} (ho : h.get? a = some o) (hd : o.data = .set es ep t) :
    (h.update a (Obj.putSet es' t')).get? a = some { o with data := .set es' (ep + 1) t' } := by
  have q := Heap.get?_update_self (Obj.putSet es' t') ho (by rw [putSet_of es' t' hd]; rfl)
  rw [putSet_of es' t' hd] at q
  exact q

theorem texR_add_tail {g : Bool → Sem Unit} (hg : ∀ (b : Bool) (s₁ : Shared) (Q' : Unit → Shared → Prop), Q' () s₁ → wpAny (model P w) A (g b) Q' E s₁)
    {o : Obj} {es : Array (Int × Value)} {ep : Nat} {t : SetTable} (ho : s.heap.get? a = some o) (hex : o.ExactSet) (hd : o.data = .set es ep t)
    {es1 : Array (Int × Value)} {t2 : SetTable} {S' : Str → Bool} (g1 : ∀ e ∈ es1.toList, GoodX w e) (nd1 : (es1.toList.map keyOx).Nodup) (m1 : ∀ k, S' k = true ↔ k ∈ es1.toList.map keyOx)
    (hb1 : es1.size < scanBound) (hf2 : t2.fits es1.size = true) (hr : Ris t2.place.toList) (hl : w.params.followText "set-order" = true ∨ t2.led = true) {wasDummy : Bool} {R : Option Bool → Shared → Prop}
    (hR : ∀ h', Heap.SameBut a s.heap h' → TexR w h' a S' es1.size → R (some true) { s with heap := h' }) :
    wpAny (model P w) A (do
        storeSet a es1 t2
        if (!wasDummy && t2.tooFull) = true then do
            g (relayAll t2 es1 (SetTable.grown es1.size)).2.2
            storeSet a (relayAll t2 es1 (SetTable.grown es1.size)).1 (relayAll t2 es1 (SetTable.grown es1.size)).2.1
            pure (some true)
          else pure (some true)) R E s := by
  refine wpAny_bind (wpAny_storeSet_of ho hd ?_ (fits_of_scanBound hb1))
  have ho1 := store_atX (es' := es1) (t' := t2) ho hd
  have sb1 := Heap.SameBut.update s.heap a (Obj.putSet es1 t2)
  split
  · have pm := relayAll_perm t2 es1 (SetTable.grown es1.size)
    have hf3 := relayAll_fits t2 es1 (SetTable.grown es1.size)
    have hr3 := relayAll_ris t2 es1 (SetTable.grown es1.size)
    have hl3 := relayAll_led t2 es1 (SetTable.grown es1.size)
    generalize relayAll t2 es1 (SetTable.grown es1.size) = Z at pm hf3 hr3 hl3 ⊢
    obtain ⟨es2, t3, gave⟩ := Z
    dsimp only at pm hf3 hr3 hl3 ⊢
    have hsz : es2.size = es1.size := by rw [← Array.length_toList, pm.length_eq, Array.length_toList]
    have hb2 : es2.size < scanBound := by rw [hsz]; exact hb1
    refine wpAny_bind (hg _ _ _ ?_)
    refine wpAny_bind (wpAny_storeSet_of ho1 rfl ?_ (fits_of_scanBound hb2))
    have ho2 := store_atX (es' := es2) (t' := t3) ho1 rfl
    refine wpAny_pure (hR _ (sb1.trans (Heap.SameBut.update _ a _)) ?_)
    exact ⟨_, es2, _, t3, ho2, hex, rfl, fun e he => g1 e (pm.mem_iff.mp he), (pm.map keyOx).nodup_iff.mpr nd1, fun k => (m1 k).trans (pm.map keyOx).mem_iff.symm, hb2, hf3, hsz, hr3,
      hl.imp id fun z => by rw [hl3]; exact z⟩
  · exact wpAny_pure (hR _ sb1 ⟨_, es1, _, t2, ho1, hex, rfl, g1, nd1, m1, hb1, hf2, rfl, hr, hl⟩)

theorem texR_add_hashed {k : Str} {tk : Tok} {Q : Bool → Shared → Prop} (R : TexR w s.heap a S n) (room : n + 1 < scanBound)
    (hQ : ∀ h', Heap.SameBut a s.heap h' → TexR w h' a (fun j => S j || decide (j = k)) (if S k = true then n else n + 1) → Q (!S k) { s with heap := h' }) :
    wpAny (model P w) A (setAddHashed a (.str k tk) ((PySem.strKind P w).hash k)) Q E s := by
  obtain ⟨o, es, ep, t, ho, hex, hd, g, nd, hm, hb, hf, hn, hr, hl⟩ := R
  have hkey : (PySem.strKind P w).is k (.str k tk) = true := strKind_is P w k tk
  have hsc : (Value.str k tk).scannable = true := rfl
  have hel : ElemsOf (PySem.strKind P w) es.toList := goodx_elems g
  unfold setAddHashed setAddHashedIn
  refine wpAny_holding (wpAny_bind (wpAny_setState_of ho hd hf ?_))
  dsimp only
  rw [byScan_of hsc hb hel]
  simp only [↓reduceIte]
  unfold setAddByScan
  refine wpAny_bind ?_
  refine wpAny_bind (wpAny_rule ?_)
  refine wpAny_bind (wpAny_setScan_of hkey ho hd hf hel ?_)
  cases hfi : List.findIdx? (fun e => (PySem.strKind P w).is k e.2) es.toList with
  | some j =>
    dsimp only
    obtain ⟨hj, pj, _⟩ := List.findIdx?_eq_some_iff_getElem.mp hfi
    have hSk : S k = true := (hm k).2 ((goodx_mem (P := P) (w := w) g k).2 ⟨es.toList[j], List.getElem_mem hj, pj⟩)
    refine wpAny_pure (wpAny_pure ?_)
    have q := hQ s.heap (Heap.SameBut.refl a s.heap) ⟨o, es, ep, t, ho, hex, hd, g, nd, fun i => by
      rw [Bool.or_eq_true, decide_eq_true_eq, ← hm i]
      exact ⟨fun z => z.elim id (fun e => e ▸ hSk), .inl⟩, hb, hf, by rw [if_pos hSk]; exact hn, hr, hl⟩
    rw [hSk] at q
    exact q
  | none =>
    dsimp only
    have hnk : k ∉ es.toList.map keyOx := fun z => by
      obtain ⟨e, he, q⟩ := (goodx_mem (P := P) (w := w) g k).1 z
      have c := List.findIdx?_eq_none_iff.mp hfi e he
      rw [q] at c
      cases c
    have hSk : S k = false := by
      cases q : S k with
      | false => rfl
      | true => exact absurd ((hm k).1 q) hnk
    have hgw : ∀ (b : Bool) {s₁ : Shared} {Q' : Unit → Shared → Prop}, Q' () s₁ → wpAny (model P w) A (match b with | true => rule "set.scan.the-table-gave-way" | false => pure ()) Q' E s₁ :=
      fun b s₁ Q' q => by cases b <;> first | exact wpAny_pure q | exact wpAny_rule q
    have pm := layNew_perm t es ((PySem.strKind P w).hash k) (.str k tk)
    have hf1 := layNew_fits t es ((PySem.strKind P w).hash k) (.str k tk)
    have hr1 := layNew_ris t es ((PySem.strKind P w).hash k) (.str k tk) hr
    have hl1 := layNew_led t es ((PySem.strKind P w).hash k) (.str k tk)
    generalize layNew t es ((PySem.strKind P w).hash k) (.str k tk) = Z at pm hf1 hr1 hl1 ⊢
    obtain ⟨es1, t1, wasDummy, gave⟩ := Z
    dsimp only at pm hf1 hr1 hl1 ⊢
    rw [Array.toList_push] at pm
    have pc : es1.toList.Perm (((PySem.strKind P w).hash k, Value.str k tk) :: es.toList) := pm.trans (List.perm_append_singleton _ _)
    have pk : (es1.toList.map keyOx).Perm (k :: es.toList.map keyOx) := pc.map keyOx
    have g1 : ∀ e ∈ es1.toList, GoodX w e := fun e he => by
      rcases List.mem_cons.mp (pc.mem_iff.mp he) with z | z
      · rw [z]; exact ⟨k, tk, rfl, rfl⟩
      · exact g e z
    have nd1 : (es1.toList.map keyOx).Nodup := pk.nodup_iff.mpr (List.nodup_cons.mpr ⟨hnk, nd⟩)
    have m1 : ∀ i, (S i || decide (i = k)) = true ↔ i ∈ es1.toList.map keyOx := fun i => by
      rw [Bool.or_eq_true, decide_eq_true_eq, hm i, pk.mem_iff, List.mem_cons]
      exact Or.comm
    have hsz : es1.size = n + 1 := by rw [← Array.length_toList, pc.length_eq, List.length_cons, Array.length_toList, hn]
    have hb1 : es1.size < scanBound := by rw [hsz]; exact room
    have hled : w.params.followText "set-order" = true ∨ t1.led = true := hl.imp id fun z => by rw [hl1]; exact z
    have fin : ∀ h', Heap.SameBut a s.heap h' → TexR w h' a (fun j => S j || decide (j = k)) es1.size → Q true { s with heap := h' } := fun h' sb r => by
      have q := hQ h' sb
      rw [hSk] at q
      rw [hsz] at r
      exact q r
    refine wpAny_bind (hgw _ ?_)
    split
    · refine wpAny_bind ?_
      rw [hashByValue_scannable 8 hsc]
      refine wpAny_pure ?_
      refine texR_add_tail ?_ ho hex hd g1 nd1 m1 hb1 ?_ ?_ ?_ ?_
      · intro b s₁ Q' q; cases b <;> first | exact wpAny_pure q | exact wpAny_rule q
      · first | (split <;> first | exact hf1 | exact SetTable.fits_plain_off hf1) | exact hf1
      · first | (split <;> exact hr1) | exact hr1
      · first | (split <;> exact hled) | exact hled
      · intro h' sb r; dsimp only; exact wpAny_pure (fin h' sb r)
    · refine wpAny_bind (wpAny_pure ?_)
      simp only [↓reduceIte]
      refine texR_add_tail ?_ ho hex hd g1 nd1 m1 hb1 hf1 hr1 hled ?_
      · intro b s₁ Q' q; cases b <;> first | exact wpAny_pure q | exact wpAny_rule q
      · intro h' sb r; dsimp only; exact wpAny_pure (fin h' sb r)

end
theorem texR_new_at {w : World} {h : Heap} {a : Addr} {ns : List Str} (ho : h.get? a = some { cls := .type "set", dict := none, data := .set #[] 0 (.fresh 0 0 (!w.params.followText "set-order")) }) : TexR w h a (fun j => decide (j ∈ ns.take 0)) 0 :=
  ⟨_, #[], 0, _, ho, ⟨rfl, rfl, rfl⟩, rfl, (fun e he => by simp at he), (by simp), (fun k => by simp), (by decide), (by rfl), rfl, List.Pairwise.nil, by
    show _ ∨ (!w.params.followText "set-order") = true
    cases w.params.followText "set-order"
    · exact .inr rfl
    · exact .inl rfl⟩
section
variable {P : Program} {w : World} {A : Around} {E : Value → Shared → Prop} {s : Shared}
theorem set_update_strs {I : Addr} {fp wr : List Addr} {G : Array GenState → Array GenState → Prop} {n : Nat} {Pv : Nat → Value → Prop} {St : Nat → Shared → Prop} {R : Result → Shared → Prop}
    (W : WalksS P w A.in1 I fp wr G n Pv St) (S : Addr) (hSf : S ∉ fp) (ns : List Str) (hn : n = ns.length) (hb : ns.length + 1 < scanBound) (hval : ∀ i v, Pv i v → ∃ k t, ns[i]? = some k ∧ v = .str k t) :
    ∀ (k i : Nat) (s : Shared), n - i = k → i ≤ n → St i s → (∃ c, c ≤ i ∧ TexR w s.heap S (fun j => decide (j ∈ ns.take i)) c) →
      (∀ s' c, Moved (S :: wr) G s s' → c ≤ n → TexR w s'.heap S (fun j => decide (j ∈ ns)) c → R (.ok (.ret .none)) s') →
      codeAny (model P w) A (.builtin "set.update.loop" ⟨[.ref S, .ref I], []⟩) R s := by
  have hSw : S ∉ wr := fun h => hSf (W.sub _ h)
  have hsub : ∀ b ∈ wr, b ∈ S :: wr := fun b hb => List.mem_cons_of_mem _ hb
  intro k
  induction k with
  | zero =>
    intro i s hk' hi hst ⟨c, hc, hS⟩ hR
    have hin : i = n := by omega
    subst hin
    refine codeAny_builtin F.entry_set_update_loop ?_
    rw [Around.under_plainId F.plain_set_update_loop _]
    show wpAny _ A.in1 (pyNext (.ref I) >>= _) _ _ s
    refine wpAny_bind (W.done s _ _ hst fun s' hm => ?_)
    show wpAny _ A.in1 (ret Value.none) _ _ s'
    have e : ns.take i = ns := List.take_of_length_le (by omega)
    rw [e] at hS
    exact wpAny_pure (hR s' c (hm.mono hsub) hc (hS.at fun o e => hm.heap S o hSw e))
  | succ k ih =>
    intro i s hk' hi hst ⟨c, hc, hS⟩ hR
    have hlt : i < n := by omega
    refine codeAny_builtin F.entry_set_update_loop ?_
    rw [Around.under_plainId F.plain_set_update_loop _]
    show wpAny _ A.in1 (pyNext (.ref I) >>= _) _ _ s
    refine wpAny_bind (W.item i s _ _ hlt hst fun v s' hP hst' hm => ?_)
    obtain ⟨z, t, hz, rfl⟩ := hval i v hP
    have hS' : TexR w s'.heap S (fun j => decide (j ∈ ns.take i)) c := hS.at fun o e => hm.heap S o hSw e
    show wpAny _ A.in1 (holding [Value.str z t] (setAdd S (.str z t)) >>= _) _ _ s'
    refine wpAny_bind (wpAny_holding ?_)
    unfold setAdd
    refine wpAny_holding ?_
    refine wpAny_bind ((PySem.strKind P w).pyHash (k := z) (strKind_is _ _ _ _) ?_)
    refine texR_add_hashed (s := { s' with toks := s'.toks + 1 }) hS' (by omega) fun h' hsb hS2 => ?_
    have hS3 : TexR w h' S (fun j => decide (j ∈ ns.take (i + 1))) (if decide (z ∈ ns.take i) = true then c else c + 1) := hS2.congr fun j => by
      rw [List.take_add_one, hz]
      simp [List.mem_append]
    have hc3 : (if decide (z ∈ ns.take i) = true then c else c + 1) ≤ i + 1 := by
      split <;> omega
    refine wpAny_pure ⟨plainId_quiet F.plain_set_update_loop _, ih (i + 1) _ (by omega) hlt (W.frame _ s' _ _ hst' (Nat.le_succ _) fun b hb o e => ?_) ⟨_, hc3, hS3⟩ fun s'' c2 hm'' hc'' hS'' => ?_⟩
    · rw [hsb.2 b (fun h : b = S => hSf (by rw [← h]; exact hb))]; exact e
    · refine hR s'' c2 (Moved.trans W.gtrans ((hm.mono hsub).then_heap (Nat.le_succ _) fun b o hb e => ?_) hm'') hc'' hS''
      rw [hsb.2 b (fun h : b = S => hb (by rw [h]; exact List.mem_cons_self))]; exact e

theorem code_set_ledS (a : Value) {Q₁ : Value → Shared → Prop}
    (h : Q₁ (.ref s.heap.objs.size) { s with heap := s.heap.push { cls := .type "set", dict := none, data := .set #[] 0 (.fresh 0 0 (!w.params.followText "set-order")) } }) :
    codeAny (model P w) A (.call (.builtin "set.__new__") ⟨[.type "set", a], []⟩) (wants Q₁ E) s := by
  refine codeAny_of_tree ?_
  show wpAny _ A.in1 (do checkBuiltinCall "set.__new__" ⟨[.type "set", a], []⟩; again (.builtin "set.__new__" ⟨[.type "set", a], []⟩)) _ _ s
  refine wpAny_bind (wpAny_of_eq (F.newCall_set_1 a) (wpAny_pure ⟨plainId_quiet F.plain_set_new _, codeAny_builtin F.entry_set_new ?_⟩))
  rw [Around.under_plainId F.plain_set_new _]
  unfold Builtin.«set.__new__» Builtin.Frozenset.newClass
  have hsub := sub_set_self
  obtain ⟨hp, g, d, tk, os⟩ := s
  dsimp only
  wp_walk
  refine wpAny_askSetting (wpAny_pure ?_)
  dsimp only
  simp only [newObj]
  refine wpAny_bind (wpAny_alloc (wpAny_pure ?_))
  exact wpAny_pure h

set_option maxRecDepth 100000 in
set_option maxHeartbeats 3200000 in
theorem call_set_lstS {l : Addr} {items : Array Value} (ns : List Str) {Q : Value → Shared → Prop} (hh : A.handled = none) (hl : s.heap.IsList l items) (hit : StrsAre items.toList ns) (hb : ns.length + 1 < scanBound)
    (h : ∀ (h' : Heap) (tk c : Nat), TexR w h' s.heap.objs.size (fun j => decide (j ∈ ns)) c → c ≤ ns.length → (∀ b o, s.heap.get? b = some o → h'.get? b = some o) → Q (.ref s.heap.objs.size) { s with heap := h', toks := tk }) :
    wpAny (model P w) A (call (.type "set") [.ref l]) Q E s := by
  have hisz : items.size = ns.length := by
    have q := PyProof.Rows.StrsAre.len_eq hit
    rw [Array.length_toList] at q
    exact q
  obtain ⟨c, tl, hmro⟩ := F.called_set.mro
  have hmade := F.called_set.made
  have hsub := F.called_set.sub
  refine wpAny_call (codeAny_of_tree ?_)
  show wpAny _ _ (callAny (.type "set") _) _ _ _
  refine wpAny_pure ⟨Code.quiet_builtin _ (by decide +kernel), codeAny_builtin F.entry_type_call ?_⟩
  rw [Around.under_plain (weight_type_call_type "set" [.ref l] []) rfl]
  have h1 := F.called_set.notType
  have h2 := F.called_set.canCreate
  have hct := F.typeCall_set_1 (.ref l)
  repeat (any_goals (first | assumption | wp_step))

  refine codeAny_mono (code_set_ledS (.ref l) (E := E) (Q₁ := fun obj s₁ => obj = .ref s.heap.objs.size ∧ s₁ = { s with heap := s.heap.push { cls := .type "set", dict := none, data := .set #[] 0 (.fresh 0 0 (!w.params.followText "set-order")) } }) ⟨rfl, rfl⟩) fun r s₁ hr => ?_
  cases r with
  | error e => exact hr
  | ok fl =>
    cases fl with
    | ret obj =>
      obtain ⟨rfl, rfl⟩ := hr
      have hS : (s.heap.push { cls := .type "set", dict := none, data := .set #[] 0 (.fresh 0 0 (!w.params.followText "set-order")) }).get? s.heap.objs.size = some { cls := .type "set", dict := none, data := .set #[] 0 (.fresh 0 0 (!w.params.followText "set-order")) } := Heap.get?_push_size _ rfl
      have hT : Shared.TypeIs { s with heap := s.heap.push { cls := .type "set", dict := none, data := .set #[] 0 (.fresh 0 0 (!w.params.followText "set-order")) } } (.ref s.heap.objs.size) "set" := ⟨_, hS, rfl⟩
      have hli := F.called_set.init.lookup
      have hbi := F.called_set.init.bind (.ref s.heap.objs.size)
      repeat (any_goals (first | assumption | wp_step))

      refine codeAny_mono (codeAny_call_builtin (R := wants (fun r s₂ => r = .none ∧ ∃ h' tk c, s₂ = { s with heap := h', toks := tk } ∧ TexR w h' s.heap.objs.size (fun j => decide (j ∈ ns)) c ∧ c ≤ ns.length ∧
          (∀ b o, s.heap.get? b = some o → h'.get? b = some o)) E) F.called_set.init.plain F.entry_set_init (check_set_init_1 hT ?_)) fun r₂ s₂ hr₂ => ?_
      · obtain ⟨ol, hol, hcl, nl, hdl⟩ := hl
        obtain ⟨ocls, odict, odata, oslots⟩ := ol
        simp only at hcl hdl
        subst hcl; subst hdl
        have hol' : (s.heap.push { cls := .type "set", dict := none, data := .set #[] 0 (.fresh 0 0 (!w.params.followText "set-order")) }).get? l = some { cls := .type "list", dict := odict, data := .seq items nl, slots := oslots } := Heap.get?_push_of_some _ hol
        have hsls := F.sub_list_set
        have hslf := F.sub_list_frozenset
        have hne : (Value.type "list" == Value.type "dict") = false := by decide
        have hl1 : (s.heap.push { cls := .type "set", dict := none, data := .set #[] 0 (.fresh 0 0 (!w.params.followText "set-order")) }).IsList l items := ⟨_, hol', rfl, nl, rfl⟩
        unfold Builtin.«set.__init__» noKeywords Builtin.Frozenset.updateFrom
        generalize hPI : pyIter = PI
        wp_walk
        subst hPI

        refine wpAny_pyIter_list hl1 ?_
        refine wpAny_bind (wpAny_runValue ?_)
        have hlS : l < s.heap.objs.size := Heap.lt_size hol
        have hh3 : A.in1.in1.in1.handled = none := by simp [hh]
        have hz1 : (s.heap.push { cls := .type "set", dict := none, data := .set #[] 0 (.fresh 0 0 (!w.params.followText "set-order")) }).objs.size = s.heap.objs.size + 1 := Heap.size_push ..
        have hneI : l ≠ (s.heap.push { cls := .type "set", dict := none, data := .set #[] 0 (.fresh 0 0 (!w.params.followText "set-order")) }).objs.size := by
          rw [Heap.size_push]; exact Nat.ne_of_lt (Nat.lt_succ_of_lt hlS)
        have hSf : s.heap.objs.size ∉ [(s.heap.push { cls := .type "set", dict := none, data := .set #[] 0 (.fresh 0 0 (!w.params.followText "set-order")) }).objs.size, l] := by
          rw [Heap.size_push]; simp only [List.mem_cons, List.mem_singleton, List.not_mem_nil, or_false, not_or]
          exact ⟨Nat.ne_of_lt (Nat.lt_succ_self _), Nat.ne_of_gt hlS⟩
        have hval : ∀ (i : Nat) (v : Value), items[i]? = some v → ∃ k t, ns[i]? = some k ∧ v = .str k t := fun i v hv => by
          have hi : i < ns.length := by rw [← hisz]; exact (Array.getElem?_eq_some_iff.mp hv).1
          obtain ⟨t, e⟩ := SS.strs_at hit i v (by rw [Array.getElem?_toList]; exact hv)
          refine ⟨ns[i], t, List.getElem?_eq_getElem hi, ?_⟩
          rw [e, List.getD_eq_getElem?_getD, List.getElem?_eq_getElem hi] <;> rfl
        refine set_update_strs ((Walks.list hh3 _ l hneI items).toS) s.heap.objs.size
          hSf ns hisz hb hval (items.size - 0) 0 _ (by omega) (Nat.zero_le _)
          ⟨⟨_, Heap.get?_push_size _ rfl, rfl, rfl⟩, (hl1.push _)⟩ ?hS0 ?hR
        case hS0 =>
          have hget : ((s.heap.push { cls := .type "set", dict := none, data := .set #[] 0 (.fresh 0 0 (!w.params.followText "set-order")) }).push { cls := .type "list_iterator", data := .fields #[.ref l, .int 0 0] }).get? s.heap.objs.size
              = some { cls := .type "set", dict := none, data := .set #[] 0 (.fresh 0 0 (!w.params.followText "set-order")) } := Heap.get?_push_of_some _ hS
          exact ⟨0, Nat.le_refl 0, texR_new_at hget⟩
        case hR =>
          intro s' c' hm hc' hS'
          obtain ⟨h', g2, d', tk', os'⟩ := s'
          have eg : g2 = s.gens := hm.gens
          have ed : d' = s.drawn := hm.drawn
          have eo : os' = s.os := hm.os
          subst eg; subst ed; subst eo
          show wpAny _ _ _ _ _ _
          refine wpAny_pure ?_
          show wpAny _ _ (ret Value.none) _ _ _
          rw [hisz] at hc'
          refine wpAny_pure ⟨rfl, h', tk', c', rfl, hS', hc', fun b o e => ?_⟩
          have hb0 : b < s.heap.objs.size := Heap.lt_size e
          have hb1 : b ≠ s.heap.objs.size := Nat.ne_of_lt hb0
          have hb2 : b ≠ (s.heap.push { cls := .type "set", dict := none, data := .set #[] 0 (.fresh 0 0 (!w.params.followText "set-order")) }).objs.size := by
            rw [Heap.size_push]; exact Nat.ne_of_lt (Nat.lt_succ_of_lt hb0)
          exact hm.heap b o (by simp only [List.mem_cons, List.mem_singleton, List.not_mem_nil, or_false, not_or]; exact ⟨hb1, hb2⟩) (Heap.get?_push_of_some _ (Heap.get?_push_of_some _ e))

      · cases r₂ with
        | error e => exact hr₂
        | ok fl₂ =>
          cases fl₂ with
          | ret r =>
            obtain ⟨rfl, h', tk, c', rfl, hS', hc', hk'⟩ := hr₂
            repeat (any_goals (first | assumption | wp_step))
            exact h _ _ _ hS' hc' hk'
          | _ => exact hr₂.elim
    | _ => exact hr.elim

end


section
variable {P : Program} {w : World} {A : Around} {E : Value → Shared → Prop} {s : Shared} {a : Addr}
theorem strsx_of : ∀ (l : List Value), (∀ v ∈ l, ∃ k tk, v = Value.str k tk) → StrsAre l (l.map fun v => keyOx (0, v))
  | [], _ => .nil
  | v :: l, h => by
    obtain ⟨k, tk, rfl⟩ := h v List.mem_cons_self
    exact .cons k tk (strsx_of l fun u hu => h u (List.mem_cons_of_mem _ hu))
theorem sorted_texR {S : Str → Bool} {n : Nat} {Q : Value → Shared → Prop} (R : TexR w s.heap a S n) (hh : A.handled = none) (h64 : n < 64)
    (hQ : ∀ s' p (out : Array Value) (c : Nat) (ns : List Str), (∀ b o, s.heap.get? b = some o → s'.heap.get? b = some o) → s'.gens = s.gens → s'.os = s.os → s.heap.objs.size ≤ p →
      s'.heap.get? p = some (seqObj "list" out c) → StrsAre out.toList ns → sortedS ns = true → ns.Nodup → (∀ k, k ∈ ns ↔ S k = true) → ns.length = n → Q (.ref p) s') :
    wpAny (model P w) A (call (.builtin "sorted") [.ref a]) Q E s := by
  obtain ⟨o, es, ep, t, ho, hex, hd, g, nd, hm, hb, hf, hn, hr, hl⟩ := R
  refine Calls.call_function_entry kind_sorted plain_sorted entry_sorted (args_sorted1 _) ?_
  unfold Builtin.«sorted»
  refine wpAny_bind (m := checkCount "sorted" 1 1 _) (wpAny_pure ?_)
  refine wpAny_bind (collect_set (A := A.in1) hh ⟨o, ho, hex.1, hd⟩ hf hb hr hl fun s1 vs k1 hz g1 o1 pm => ?_)
  have hvl : vs.length = n := by rw [pm.length_eq, List.length_map, Array.length_toList]; exact hn
  have hI : StrsAre vs (vs.map fun v => keyOx (0, v)) := strsx_of vs fun v hv => by
    obtain ⟨e, he, q⟩ := List.mem_map.mp (pm.mem_iff.mp hv)
    obtain ⟨k, tk, h1, _⟩ := g e he
    exact ⟨k, tk, by rw [← q]; exact h1⟩
  have pk : (vs.map fun v => keyOx (0, v)).Perm (es.toList.map keyOx) := by
    have q := pm.map fun v => keyOx (0, v)
    rw [List.map_map] at q
    exact q
  refine wpAny_bind (wpAny_newList ?_ (by rw [hvl, sizeLine_eq]; omega))
  have hoL : (s1.heap.push (seqObj "list" vs.toArray 0)).get? s1.heap.objs.size = some (seqObj "list" vs.toArray 0) := Heap.get?_push_size _ rfl
  refine wpAny_bind (wpAny_holding (wpAny_call_entry slot_list_sort ⟨_, hoL, rfl⟩ entry_list_sort
    (list_sort_treeK strKind_oneLt (s := { s1 with heap := s1.heap.push (seqObj "list" vs.toArray 0) }) hoL hI.keysOf (fun v₁ v₂ rest e => keyKind_strs (by rw [← e]; exact hI)) (by rw [hvl]; exact h64) fun st' hp hs => ⟨_, rfl, ?_⟩) (args_list_sort _)))
  obtain ⟨ns', a1, a2, a3⟩ := sorted_out_str hI hp hs
  obtain ⟨c, hc⟩ := sortedHeap_at (vs := vs) (out := (arrOf st').map (·.2)) hoL
  have pn : ns'.Perm (es.toList.map keyOx) := a2.trans pk
  refine wpAny_pure ⟨_, rfl, hQ _ s1.heap.objs.size _ c ns' (fun b u e => ?_) g1 o1 hz hc a1 a3 (pn.nodup_iff.mpr nd) (fun k => by rw [pn.mem_iff, ← hm k]) ?_⟩
  · have q := k1 b u e
    have hlt := Heap.lt_size q
    show (sortedHeap (s1.heap.push (seqObj "list" vs.toArray 0)) s1.heap.objs.size vs ((arrOf st').map (·.2))).get? b = some u
    rw [sortedHeap_old (Nat.ne_of_lt hlt) (by rw [size_push']; exact Nat.lt_succ_of_lt hlt)]
    exact Heap.get?_push_of_some _ q
  · rw [pn.length_eq, List.length_map, Array.length_toList]; exact hn
end
section
variable {X : Cx}
/-- the set of texts at a -/
def TexO (w : World) (a : Addr) (S : Str → Bool) (n : Nat) : HO := .ext fun h => TexR w h a S n
theorem texO_new {w : World} {P : Program} {H : Hp} {h : Heap} {a : Addr} {S : Str → Bool} {n : Nat} (R : TexR w h a S n) : ObjOk P w H h a (TexO w a S n) := by
  have ⟨o, _, _, _, ho, _⟩ := R
  exact ⟨R, ⟨o, ho⟩, fun h1 h2 p k => TexR.at p k⟩
/-- set(xs): xs a list of texts -/
def rSetS (K : PySem.W.Frag) (w : World) : List V → Hp → VK → Prop := fun vs H Q => ∃ (l : Addr) (ns : List Str), vs = [V.ref l] ∧ SqL K H l (ns.map V.str) ∧ ns.length < 60 ∧
  ∀ p c, H p = none → c ≤ ns.length → Q (.ref p) (upd H p (TexO w p (fun k => decide (k ∈ ns)) c))
theorem cr_setS (hc : X.calm = true) : CallR X (.type "set") (rSetS X.K X.w) := by
  intro pins s σ H vs us Q I r h
  obtain ⟨l, ns, rfl, hs, hn, q⟩ := h
  rw [Vals.ref1 r]
  obtain ⟨its, rv, hl, hz⟩ := I.list hs
  refine call_set_lstS ns (I.ok.hd hc) hl.isList (by simpa using Vals.strs rv) (by unfold scanBound; omega) fun h' tk c R hc k => ?_
  exact ⟨.ref _, _, I.laid (t' := tk) k (Nat.le_refl _) (texO_new R), rfl, q _ c (I.hok.fresh (Nat.le_refl _)) hc⟩
/-- sorted(found), fewer than 64 members -/
def rSortedSS (w : World) : List V → Hp → VK → Prop := fun vs H Q => ∃ (a : Addr) (S : Str → Bool) (n : Nat), vs = [V.ref a] ∧ H a = some (TexO w a S n) ∧ n < 64 ∧
  ∀ (ns : List Str) (p : Addr), sortedS ns = true → ns.Nodup → (∀ k : Str, k ∈ ns ↔ S k = true) → ns.length = n → H p = none → Q (.ref p) (upd H p (.lst (ns.map V.str)))
theorem cr_sortedSS (hc : X.calm = true) : CallR X (.builtin "sorted") (rSortedSS X.w) := by
  intro pins s σ H vs us Q I r h
  obtain ⟨a, S, n, rfl, ha, h64, q⟩ := h
  have R : TexR X.w s.heap a S n := (I.hok a _ ha).1
  rw [Vals.ref1 r]
  refine sorted_texR R (I.ok.hd hc) h64 fun s' p out c ns k g o hp hg hi hs nd hm hl => ?_
  have hlen : (ns.map V.str).length ≤ sizeLine := by rw [List.length_map, hl, sizeLine_eq]; omega
  have hn : H p = none := I.hok.fresh hp
  have J : Inv X pins σ (upd H p (.lst (ns.map V.str))) { s with heap := s'.heap, gens := s'.gens, drawn := s'.drawn, toks := s'.toks } :=
    I.call (ch := []) (Un.laid k hp hn) (I.hok.laid k hp ⟨hlen, out.toList, c, vals_of_strs hi, hg⟩) (by rw [g]; exact I.bare) (fun _ z => nomatch z)
  have e : s' = { s with heap := s'.heap, gens := s'.gens, drawn := s'.drawn, toks := s'.toks } := by
    cases s'
    cases s
    cases o
    rfl
  rw [e]
  exact ⟨.ref p, _, J, rfl, q ns p hs nd hm hl hn⟩
end
end K31

set_option Elab.async false
set_option linter.all false
set_option maxRecDepth 100000
set_option maxHeartbeats 1000000
namespace K31
open PySem PySem.Spec PyProof.Rows L2
abbrev Row := Str × Int
abbrev rRow : Rp Row := rPair rStr rInt
theorem rRow_tm : TM rRow := rPair_tm rStr_tm rInt_tm
def dRow (x : Row) : PyData := .tuple [.str x.1, .int x.2]
def dRows (l : List Row) : PyData := .list (l.map dRow)
theorem fa_rows : Fa dRows 2 (fun l => ∀ x ∈ l, okS x.1 ∧ True) := fa_list (fa_pair fa_str fa_int)
theorem dp_rows {K : PySem.W.Frag} {H : Hp} {v : V} {l : List Row} (h : rList rRow H v l) : Dp K H v (dRows l) := dp_list (f := dRow) (fun h => dp_pair (f := .str) (g := .int) dp_str dp_int h) h
/-- arms: at most six, at most three of a name -/
def RowsOk (n : Nat) (l : List Row) : Prop := l.length ≤ 6 ∧ (∀ r ∈ l, IsName r.1 ∧ 0 ≤ r.2 ∧ r.2 < (n : Int)) ∧ ∀ z, (l.filter fun r => decide (r.1 = z)).length ≤ 3
theorem RowsOk.okS {n : Nat} {l : List Row} (h : RowsOk n l) : ∀ x ∈ l, okS x.1 ∧ True := fun x hx => ⟨okS_name (h.2.1 x hx).1, trivial⟩
theorem fm_opt {α β : Type} (f : α → Option β) : ∀ l : List α, (List.range l.length).filterMap (fun i => l[i]?.bind f) = l.filterMap f
  | [] => rfl
  | a :: l => by
    rw [List.length_cons, List.range_succ_eq_map, List.filterMap_cons, List.filterMap_map, List.filterMap_cons]
    have ih := fm_opt f l
    have e : (List.range l.length).filterMap ((fun i => (a :: l)[i]?.bind f) ∘ Nat.succ) = l.filterMap f := ih
    rw [e]
    rfl
theorem filter_fm {α : Type} (p : α → Bool) : ∀ l : List α, l.filterMap (fun a => if p a = true then some a else none) = l.filter p
  | [] => rfl
  | a :: l => by
    rw [List.filterMap_cons, List.filter_cons, filter_fm p l]
    cases p a <;> rfl
theorem cut_asg {te : TE} {g : TG} {D : Ends} {σ : L2.St} {H : Hp} (C : V → Hp → Prop) (h1 : ∀ Q : VK, (∀ v H', C v H' → Q v H') → te σ H Q) (h2 : ∀ v H', C v H' → g v σ H' D.nx) : tAsg te g D σ H := h1 _ h2
theorem cut_sif {c : TT} {t u r : TS} {D : Ends} {σ : L2.St} {H : Hp} (C : L2.St → Hp → Prop) (h1 : ∀ D' : Ends, (∀ σ' H', C σ' H' → D'.nx σ' H') → tIfS c t u D' σ H) (h2 : ∀ σ' H', C σ' H' → r D σ' H') : tSeq (tIfS c t u) r D σ H := h1 { D with nx := r D } h2
theorem atI_last {α : Type} {xs : List α} {m : Nat} {v : α} (hm : xs.length = m + 1) (h : xs[m]? = some v) : atI xs (-1) = some v := by
  unfold atI ixN
  rw [if_neg (by omega), if_pos (by omega)]
  show xs[((-1 : Int) + (xs.length : Int)).toNat]? = some v
  rw [show ((-1 : Int) + (xs.length : Int)).toNat = m by omega]
  exact h
section
variable {P : Program} {w : World} {K : PySem.W.Frag} {mg : Str → Option Value} {base : Heap}
def sp_spread : Sp := fun vs H Q _ => ∃ (u : Addr) (n c : Nat), vs = [.ref u, .int (n : Int)] ∧ UrnAt H u c ∧ c ≤ 400 ∧ 0 < n ∧ n ≤ 300 ∧ ∀ H' v' l, SU u H H' → UrnAt H' u (c + 32) → NewL rRow H H' v' l → RowsOk n l → Q v' H'
theorem df__law_spread (T : Txt K mg) : Df P w K mg base 3 "_law_spread" ["_law_urn_here", "_law_n"] sp_spread := by
  have D__law_pick := df__law_pick (P := P) (w := w) (base := base) T
  have D__law_shuffled := df__law_shuffled (P := P) (w := w) (base := base) T
  refine Df.mk T.a__law_spread sc__law_spread (fun _ _ _ _ _ _ us hl => match us, hl with | [_, _], _ => rfl) (fun vs H Q E h => ?_) (fun f cdv A outer s H vs Q E hr h => ?_)
  · obtain ⟨_, _, _, rfl, _⟩ := h
    rfl
  · obtain ⟨u, n, c, rfl, hu, hc, hn0, hn, q⟩ := h
    refine ⟨_, (pss_cons (ps_par (i := 2) (j := 3) (by rfl) sc__law_spread.nd rfl rfl (by decide) rfl rfl (pa_cons (pe_lst pa_nil) (pa_cons (pe_df D__law_shuffled hr (by decide) (by rfl) (pa_cons (pv 0) (pa_cons (pe_lst (pa_cons pe_str (pa_cons pe_str (pa_cons pe_str (pa_cons pe_str (pa_cons pe_str (pa_cons pe_str pa_nil))))))) pa_nil))) pa_nil)) (by rfl))
  (pss_cons (ps_set (i := 4) sc__law_spread.nd rfl (.inl rfl) (pe_ix (ix_listK (K := K) rfl) (pe_lst (pa_cons pe_int (pa_cons pe_int (pa_cons pe_int (pa_cons pe_int (pa_cons pe_int pa_nil)))))) (pe_df D__law_pick hr (by decide) (by rfl) (pa_cons (pv 0) (pa_cons pe_int pa_nil))) (fun _ _ => rfl)))
  (pss_cons (ps_for PassesOwn.never rfl (pi_range1 (by rfl) T.z_range (pa_cons (pe_df D__law_pick hr (by decide) (by rfl) (pa_cons (pv 0) (pa_cons pe_int pa_nil))) pa_nil)) (pg_name (i := 5) sc__law_spread.nd rfl (.inl rfl))
  (pss_cons (ps_set (i := 6) sc__law_spread.nd rfl (.inr rfl) (pe_ifExp (pt_cmpR op_eq (pv 4) pe_int (nomark _)) (pe_ix (ix_listK (K := K) rfl) (pv 3) (pv 5) (fun _ _ => rfl)) (pe_ix (ix_listK (K := K) rfl) (pv 3) (pe_df D__law_pick hr (by decide) (by rfl) (pa_cons (pv 0) (pa_cons (pv 4) pa_nil))) (fun _ _ => rfl))))
  (pss_one (ps_if (pt_cmpR op_lt (pe_callB call_len_seq (by rfl) T.z_len bt_len (pa_cons (pe_lc (own := [("_law_row", 8)]) (g := gName 8) (by rfl) sc__law_spread.nd (pi_listK (K := K) rfl (pv 2)) (blkOk_by (own := [("_law_row", 8)]) (N := ["_law_urn_here", "_law_n", "_law_found", "_law_names", "_law_few", "_law_k", "_law_name", "_law_j", "_law_row"]) (sc := defScope s__law_spread) (by decide +kernel)) (fun _ _ _ _ _ => (pg_name (i := 8) sc__law_spread.nd rfl (.inl rfl))) (fun _ _ _ _ _ => (pts_one (pt_cmpR op_eq (pe_ix (ix_tupK (K := K) rfl) (pv 8) pe_int (fun _ _ => rfl)) (pv 6) (nomark _)))) (fun _ _ _ _ _ => (pv 8))) pa_nil)) pe_int (nomark _)) (pss_cons (ps_set (i := 7) sc__law_spread.nd rfl (.inl rfl) (pe_df D__law_pick hr (by decide) (by rfl) (pa_cons (pv 0) (pa_cons (pv 1) pa_nil))))
  (pss_cons (ps_if (PW.pt (pw_and (pt_cmpR (op_neD hr.units) (pv 2) (pe_lst pa_nil) (nomark _)) (pw_and1 (pt_cmpR op_eq (pe_df D__law_pick hr (by decide) (by rfl) (pa_cons (pv 0) (pa_cons pe_int pa_nil))) pe_int (nomark _))))) (pss_one (ps_set (i := 7) sc__law_spread.nd rfl (.inl rfl) (pe_ix (ix_tupK (K := K) rfl) (pe_ix (ix_listK (K := K) rfl) (pv 2) (pe_un un_neg pe_int) (fun _ _ => rfl)) pe_int (fun _ _ => rfl)))) pss_nil)
  (pss_one (ps_expr (pe_bm PySem.F.plainAttrs_list PySem.F.slot_list_append PySem.F.type_list_append mt_append (pv 2) (pa_cons (pe_tup (pa_cons (pv 6) (pa_cons (pv 7) pa_nil))) pa_nil)))))) pss_nil))))
  (pss_one (ps_ret (pv 2)))))), ?_⟩
    have bsm : ∀ z : Int, 0 ≤ z → z ≤ 300 → Bd 8000 z := fun z z0 z1 => Bd.mono (a := 9) (by unfold Bd; show z.natAbs < 512; omega) (by decide)
    refine ⟨Nat.zero_le _, fun fo nfo => ⟨_, rfl, by show 6 ≤ sizeLine; decide, fun ln nln => ?_⟩⟩
    have s1 := same_upd (o := .lst []) nfo
    have s2 := same_upd (o := .lst [V.str "a", .str "b", .str "d", .str "k", .str "x", .str "z"]) nln
    have hlu : ln ≠ u := by
      obtain ⟨ys, hy⟩ := hu.lst
      exact (ne_of_none (s1 _ _ hy) nln).symm
    have hfu : fo ≠ u := by
      obtain ⟨ys, hy⟩ := hu.lst
      exact (ne_of_none hy nfo).symm
    refine ⟨Str, rStr, u, c, .ref ln, names6, rfl, rStr_tm, ⟨ln, _, rfl, upd_same, ?_⟩, fun z => hlu (by cases z; rfl), hu.same (s1.trans s2), by omega, by decide, fun H1 vn ns sU hU hN hperm => ?_⟩
    · exact .cons rfl (.cons rfl (.cons rfl (.cons rfl (.cons rfl (.cons rfl .nil)))))
    obtain ⟨pn, nv, rfl, hpn, hnv, hnp⟩ := hN
    have hnl : ns.length = 6 := hperm.length_eq
    have hc1 : UrnAt H1 u (c + 6) := hU
    have hfo1 : H1 fo = some (.lst []) := sU _ _ hfu (s2 _ _ upd_same)
    have hpfo : pn ≠ fo := fun z => by
      rw [z] at hpn
      rw [s2 _ _ (upd_same (H := H) (a := fo) (o := .lst []))] at hpn
      cases hpn
    have hpu : pn ≠ u := fun z => by
      rw [z] at hpn
      obtain ⟨ys, hy⟩ := (hu.same (s1.trans s2)).lst
      rw [hy] at hpn
      cases hpn
    have sU1 : SU u H H1 := (SU.of (s1.trans s2)).trans sU
    refine ⟨_, _, rfl, ?_⟩
    refine ⟨by show 5 ≤ sizeLine; decide, fun lf nlf => ?_⟩
    have s3 := same_upd (o := .lst [V.int 1, .int 2, .int 3, .int 6, .int 6]) nlf
    have hlfu : lf ≠ u := by
      obtain ⟨ys, hy⟩ := hc1.lst
      exact (ne_of_none hy nlf).symm
    refine ⟨_, rfl, u, 5, c + 6, rfl, hc1.same s3, by omega, by decide, bsm _ (by decide) (by decide), fun o r ho h0 h1 => ?_⟩
    obtain ⟨ws, hws⟩ : ∃ ws : List Int, ws = [1, 2, 3, 6, 6] := ⟨_, rfl⟩
    have hall : ∀ z ∈ ws, 1 ≤ z ∧ (z = 6 ∨ z ≤ 3) := by
      rw [hws]
      decide
    have e0 : ([V.int 1, .int 2, .int 3, .int 6, .int 6] : List V) = ws.map V.int := by
      rw [hws]
      rfl
    have hwl : ws.length = 5 := by
      rw [hws]
      rfl
    have hrn : r.toNat < ws.length := by omega
    obtain ⟨g1, g2⟩ := hall _ (List.getElem_mem hrn)
    refine ⟨lf, _, r, .int ws[r.toNat], rfl, rfl, ?_, atI_pos h0 (by rw [List.getElem?_map, List.getElem?_eq_getElem hrn]; rfl), ?_⟩
    · rw [← e0]
      refine SqL_of ?_
      rw [upd_ne hlfu, upd_same]
    generalize ws[r.toNat] = few at g1 g2
    have sU2 : SU u H1 (upd (upd H1 lf (.lst [V.int 1, .int 2, .int 3, .int 6, .int 6])) u o) := (SU.of s3).trans SU.upd
    have hU2 : UrnAt (upd (upd H1 lf (.lst [V.int 1, .int 2, .int 3, .int 6, .int 6])) u o) u (c + 7) := .put ho
    generalize upd (upd H1 lf (.lst [V.int 1, .int 2, .int 3, .int 6, .int 6])) u o = H2 at sU2 hU2
    refine ⟨_, rfl, u, 7, c + 7, rfl, hU2, by omega, by decide, bsm _ (by decide) (by decide), fun o2 r2 ho2 h20 h21 => ?_⟩
    have sU3 : SU u H1 (upd H2 u o2) := sU2.trans SU.upd
    have hU3 : UrnAt (upd H2 u o2) u (c + 8) := .put ho2
    have ts3 : TSame H1 (upd H2 u o2) := SU.tup hc1 sU3
    refine ⟨_, rfl, by omega, ?_, for_it (walk_range (n := r2.toNat))
      (fun k σ H' => ∃ y5 y6 y7 y8, σ = [some (.ref u), some (.int (n : Int)), some (.ref fo), some (.ref pn), some (.int few), y5, y6, y7, y8] ∧ SU u H H' ∧ UrnAt H' u (c + 8 + 4 * k) ∧ H' pn = some (.lst nv) ∧ ∃ fs rows, H' fo = some (.lst fs) ∧ Paired (rRow H') fs rows ∧ RowsOk n rows ∧ rows.length ≤ k)
      ⟨none, none, none, none, rfl, sU1.trans sU3, hU3, sU3 _ _ hpu hnv, [], [], sU3 _ _ hfu hfo1, .nil, ⟨Nat.zero_le _, (fun _ h => nomatch h), fun _ => Nat.zero_le 3⟩, Nat.le_refl _⟩ (fun _ _ _ _ _ => trivial) (fun k x σ H4 H4' hk h hy => ?_) (fun σ H4 h => ?_)⟩
    · have : (2 : Int) ^ 62 = 4611686018427387904 := by decide
      omega
    · obtain ⟨y5, y6, y7, y8, rfl, sU4, hU4, hn4, fs, rows, hf4, hp4, hok, hlr⟩ := h
      obtain ⟨rfl, hxv⟩ := hy
      obtain rfl : x = .int (k : Int) := by
        rw [hxv]
        show V.int (0 + (k : Int)) = V.int (k : Int)
        rw [Int.zero_add]
      have hk6 : k < 6 := by omega
      refine cut_asg (fun v H' => ∃ z, v = .str z ∧ IsName z ∧ SU u H4' H' ∧ UrnAt H' u (c + 8 + 4 * k + 1)) (fun Q hQ => ?_) (fun v H5 hC => ?_)
      · have hget : ∀ j : Nat, j < 6 → ∃ z, nv[j]? = some (.str z) ∧ IsName z := fun j hj => by
          obtain ⟨z, hz⟩ : ∃ z, ns[j]? = some z := ⟨_, List.getElem?_eq_getElem (by omega)⟩
          obtain ⟨y, hy, ry⟩ := Paired.getR hnp hz
          exact ⟨z, by rw [hy]; exact congrArg some ry, hperm.mem_iff.mp (List.mem_of_getElem? hz)⟩
        refine ⟨_, rfl, rfl, _, rfl, ite2 (fun hd => ?_) (fun hd => ?_)⟩
        · obtain ⟨z, hz, hzn⟩ := hget k hk6
          refine ⟨_, rfl, _, rfl, pn, nv, _, _, rfl, rfl, SqL_of hn4, atI_nat hz, hQ _ _ ⟨z, rfl, hzn, SU.refl _ _, hU4.mono (by omega)⟩⟩
        · have hf6 : few ≤ 3 := by
            rcases g2 with g | g
            · exact absurd (decide_eq_true (congrArg V.int g)) hd
            · exact g
          refine ⟨_, rfl, _, rfl, _, rfl, u, few, _, rfl, hU4, by omega, by omega, bsm _ (by omega) (by omega), fun o5 r5 ho5 h50 h51 => ?_⟩
          obtain ⟨z, hz, hzn⟩ := hget r5.toNat (by omega)
          refine ⟨pn, nv, _, _, rfl, rfl, SqL_of ?_, atI_pos h50 hz, hQ _ _ ⟨z, rfl, hzn, SU.upd, .put ho5⟩⟩
          rw [upd_ne hpu]
          exact hn4
      · obtain ⟨z, rfl, hzn, sU5, hU5⟩ := hC
        have ts5 : TSame H4' H5 := SU.tup hU4 sU5
        have hf5 := sU5 _ _ hfu hf4
        have hn5 := sU5 _ _ hpu hn4
        have hp5 := Paired.tm rRow_tm ts5 hp4
        have hfl : fs.length = rows.length := PySem.Paired.length hp5
        refine ⟨_, rfl, fo, rfl, ⟨fs, SqL_of hf5⟩, fun D nD => lc_fm (walk_list (K := K) (a := fo) (xs := fs)) rRow_tm (fun i => rows[i]?.bind fun r => if decide (r.1 = z) = true then some r else none) (small100 (by omega)) nD (fun H' s' => SqL_of (s' _ _ hf5)) (fun i x H6 H6' hi s6 hy Qe Ne hq hne => ?_) (fun H6 s6 hL => ?_)⟩
        · obtain ⟨rfl, hx⟩ := hy
          obtain ⟨r, hr1, p, x1, x2, rfl, hp1, r1, r2⟩ := Paired.get hp5 hx
          obtain rfl : x1 = .str r.1 := r1
          have hp6 := s6 _ _ hp1
          refine ⟨rfl, _, rfl, _, _, _, _, rfl, rfl, SqT_of hp6, i0, _, rfl, rfl, _, rfl, ite2 (fun hd => ?_) (fun hd => ?_)⟩
          · have hd' : r.1 = z := V.str.inj (of_decide_eq_true hd)
            exact ⟨_, rfl, hq _ _ r (Same.refl _) (by rw [hr1]; exact if_pos (decide_eq_true hd')) ⟨p, _, _, rfl, hp6, rfl, r2⟩⟩
          · have hd' : ¬ r.1 = z := fun h => hd (decide_eq_true (congrArg V.str h))
            exact hne _ (Same.refl _) (by rw [hr1]; exact if_neg (fun h => hd' (of_decide_eq_true h)))
        · rw [hfl, fm_opt, filter_fm] at hL
          obtain ⟨D', ys, e1, nD', hD', hpd⟩ := hL
          cases e1
          have hyl : ys.length = (rows.filter fun r => decide (r.1 = z)).length := PySem.Paired.length hpd
          have sU6 : SU u H4' H6 := sU5.trans (SU.of s6)
          have hU6 := hU5.same s6
          have hf6 := s6 _ _ hf5
          have hp6 := Paired.tm rRow_tm (.of s6) hp5
          have hn6 := s6 _ _ hn5
          refine ⟨D, ys, rfl, .inl (SqL_of hD'), _, _, rfl, rfl, _, rfl, ite2 (fun hd => ?_) (fun hd => ?_)⟩
          · have hlt : (rows.filter fun r => decide (r.1 = z)).length < 3 := by
              have := of_decide_eq_true hd
              omega
            refine ⟨_, rfl, _, rfl, u, (n : Int), _, rfl, hU6, by omega, by omega, bsm _ (by omega) (by omega), fun o7 j ho7 hj0 hj1 => ?_⟩
            have sU7 : SU u H6 (upd H6 u o7) := SU.upd
            have hU7 : UrnAt (upd H6 u o7) u (c + 8 + 4 * k + 2) := .put ho7
            have hf7 := sU7 _ _ hfu hf6
            have hp7 := Paired.tm rRow_tm (SU.tup hU6 sU7) hp6
            have hn7 := sU7 _ _ hpu hn6
            generalize upd H6 u o7 = H7 at sU7 hU7 hf7 hp7 hn7
            dsimp only [gName]
            refine cut_sif (fun σ' H' => ∃ j' : Int, σ' = [some (.ref u), some (.int (n : Int)), some (.ref fo), some (.ref pn), some (.int few), some (.int (k : Int)), some (.str z), some (.int j'), y8] ∧ 0 ≤ j' ∧ j' < n ∧ SU u H7 H' ∧ UrnAt H' u (c + 8 + 4 * k + 3)) (fun D' hD => ?_) (fun σ' H8 hC => ?_)
            · refine ⟨_, rfl, Nat.zero_le _, fun e ne => ?_⟩
              have s8 := same_upd (o := .lst []) ne
              have hf8 := s8 _ _ hf7
              have hp8 := Paired.tm rRow_tm (.of s8) hp7
              have hU8 := hU7.same s8
              refine cmp_ne fa_rows (by decide) (dp_rows ⟨fo, fs, rfl, hf8, hp8⟩) (dp_rows (l := []) ⟨e, [], rfl, upd_same, .nil⟩) hok.okS (fun _ h => nomatch h) ⟨_, rfl, ite2 (fun hne => ?_) (fun hne => ?_)⟩
              · refine ⟨_, rfl, u, 4, _, rfl, hU8, by omega, by omega, bsm _ (by omega) (by omega), fun o9 r9 ho9 h90 h91 => ⟨rfl, _, rfl, ite2 (fun hz => ?_) (fun hz => ?_)⟩⟩
                · have hrl : rows.length ≠ 0 := fun h => by
                    rw [List.length_eq_zero_iff.mp h] at hne
                    exact absurd hne (by decide)
                  obtain ⟨m, hm⟩ : ∃ m, rows.length = m + 1 := ⟨rows.length - 1, by omega⟩
                  have hrm : rows[m]? = some (rows[m]'(by omega)) := List.getElem?_eq_getElem (by omega)
                  have hrok := hok.2.1 _ (List.mem_of_getElem? hrm)
                  have sU9 : SU u (upd H7 e (.lst [])) (upd (upd H7 e (.lst [])) u o9) := SU.upd
                  have hf9 := sU9 _ _ hfu hf8
                  obtain ⟨v, hv, p, x1, x2, rfl, hp1, r1, r2⟩ := Paired.getR (Paired.tm rRow_tm (SU.tup hU8 sU9) hp8) hrm
                  obtain rfl : x2 = .int (rows[m]'(by omega)).2 := r2
                  refine ⟨_, rfl, _, rfl, fo, fs, _, _, rfl, rfl, SqL_of hf9, atI_last (by omega) hv, p, _, _, _, rfl, rfl, SqT_of hp1, i1, hD _ _ ⟨_, rfl, hrok.2.1, hrok.2.2, (SU.of s8).trans sU9, .put ho9⟩⟩
                · exact hD _ _ ⟨j, rfl, hj0, hj1, (SU.of s8).trans SU.upd, .put ho9⟩
              · exact hD _ _ ⟨j, rfl, hj0, hj1, SU.of s8, hU8.mono (by omega)⟩
            · obtain ⟨j', rfl, hj0', hj1', sU8, hU8⟩ := hC
              have hf8 := sU8 _ _ hfu hf7
              have hp8 := Paired.tm rRow_tm (SU.tup hU7 sU8) hp7
              have hn8 := sU8 _ _ hpu hn7
              refine ⟨_, rfl, .inl ⟨rfl, _, SqL_of hf8⟩, _, rfl, _, rfl, by show 2 ≤ sizeLine; decide, fun t nt => ?_⟩
              have st := same_upd (o := .tup [.str z, .int j']) nt
              have hf9 := st _ _ hf8
              have hp9 := Paired.tm rRow_tm (.of st) hp8
              have hn9 := st _ _ hn8
              have ts : TSame (upd H8 t (.tup [.str z, .int j'])) (upd (upd H8 t (.tup [.str z, .int j'])) fo (.lst (fs ++ [.ref t]))) := .lst hf9
              refine ⟨fo, fs, _, rfl, rfl, hf9, small200 (by omega), _, _, _, _, rfl, ?_, ?_, ?_, fs ++ [.ref t], rows ++ [(z, j')], upd_same, Paired.app (Paired.tm rRow_tm ts hp9) (.cons ⟨t, _, _, rfl, ?_, rfl, rfl⟩ .nil), ⟨?_, ?_, ?_⟩, ?_⟩
              · exact SU.put nfo (((((sU4.trans sU6).trans sU7).trans sU8).trans (SU.of st)))
              · obtain ⟨o', h1, h2⟩ := hU8.same st
                refine UrnAt.mono (a := c + 8 + 4 * k + 3) ⟨o', ?_, h2⟩ (by omega)
                rw [upd_ne hfu.symm]
                exact h1
              · rw [upd_ne hpfo]
                exact hn9
              · rw [upd_ne (ne_of_none hf8 nt).symm]
                exact upd_same
              · rw [List.length_append]
                show rows.length + 1 ≤ 6
                omega
              · intro r hr
                rcases List.mem_append.mp hr with h | h
                · exact hok.2.1 r h
                · rw [List.mem_singleton.mp h]
                  exact ⟨hzn, hj0', hj1'⟩
              · intro z'
                rw [List.filter_append, List.length_append]
                by_cases hz : z = z'
                · subst hz
                  have : ([(z, j')].filter fun r : Row => decide (r.1 = z)).length ≤ 1 := List.length_filter_le _ _
                  omega
                · have e : [(z, j')].filter (fun r : Row => decide (r.1 = z')) = [] := by
                    rw [List.filter_cons]
                    have : decide (((z, j') : Row).1 = z') = false := decide_eq_false hz
                    rw [this]
                    rfl
                  rw [e]
                  exact hok.2.2 z'
              · rw [List.length_append]
                show rows.length + 1 ≤ k + 1
                omega
          · exact ⟨_, _, _, _, rfl, sU4.trans sU6, hU6.mono (by omega), hn6, fs, rows, hf6, hp6, hok, by omega⟩
    · obtain ⟨y5, y6, y7, y8, rfl, sU4, hU4, hn4, fs, rows, hf4, hp4, hok, hlr⟩ := h
      exact ⟨_, rfl, q _ _ rows sU4 (hU4.mono (by omega)) ⟨fo, fs, rfl, nfo, hf4, hp4⟩ hok⟩
end
end K31

set_option Elab.async false
set_option linter.all false
set_option maxRecDepth 100000
set_option maxHeartbeats 1000000
namespace K31
open PySem PySem.Spec PyProof.Rows L2
theorem filter_map_fm {α β : Type} (p : α → Bool) (f : α → β) : ∀ l : List α, l.filterMap (fun a => if p a = true then some (f a) else none) = (l.filter p).map f
  | [] => rfl
  | a :: l => by
    rw [List.filterMap_cons, List.filter_cons, filter_map_fm p f l]
    cases p a <;> rfl
/-! ### names in order -/
theorem ltCps_lt (a b : Str) : ltCps a.cps.toList b.cps.toList = decide (a.cps.toList < b.cps.toList) := ltCps_eq _ _
theorem names_ord : ∀ a ∈ names6, ∀ b ∈ names6, ltCps b.cps.toList a.cps.toList = false → a ≠ b → names6.idxOf a < names6.idxOf b := by decide +kernel
theorem names_less : ∀ a ∈ names6, ∀ b ∈ names6, names6.idxOf a < names6.idxOf b → ltCps a.cps.toList b.cps.toList = true := by decide +kernel
theorem names_pw : names6.Pairwise (fun a b => names6.idxOf a < names6.idxOf b) := by decide +kernel
theorem chain_pw : ∀ (x : Str) (l : List Str), risingS x l = true → (∀ z ∈ x :: l, z ∈ names6) → (x :: l).Nodup → (x :: l).Pairwise (fun a b => names6.idxOf a < names6.idxOf b)
  | x, [], _, _, _ => List.pairwise_singleton _ _
  | x, y :: l, h, hm, hd => by
    unfold risingS at h
    rw [Bool.and_eq_true, Bool.not_eq_true'] at h
    obtain ⟨d1, d2⟩ := List.nodup_cons.mp hd
    have ih := chain_pw y l h.2 (fun z hz => hm z (List.mem_cons_of_mem _ hz)) d2
    have hxy := names_ord x (hm x List.mem_cons_self) y (hm y (List.mem_cons_of_mem _ List.mem_cons_self)) h.1 (fun e => d1 (e ▸ List.mem_cons_self))
    refine List.pairwise_cons.mpr ⟨fun z hz => ?_, ih⟩
    rcases List.mem_cons.mp hz with e | e
    · rw [e]
      exact hxy
    · exact Nat.lt_trans hxy ((List.pairwise_cons.mp ih).1 z e)
theorem pw_unique {α : Type} {f : α → Nat} : ∀ {l m : List α}, l.Pairwise (fun a b => f a < f b) → m.Pairwise (fun a b => f a < f b) → (∀ z, z ∈ l ↔ z ∈ m) → l = m
  | [], [], _, _, _ => rfl
  | [], y :: m, _, _, h => by
    have := (h y).mpr List.mem_cons_self
    simp at this
  | x :: l, [], _, _, h => by
    have := (h x).mp List.mem_cons_self
    simp at this
  | x :: l, y :: m, hl, hm, h => by
    obtain ⟨a1, a2⟩ := List.pairwise_cons.mp hl
    obtain ⟨b1, b2⟩ := List.pairwise_cons.mp hm
    have e : x = y := by
      rcases List.mem_cons.mp ((h x).mp List.mem_cons_self) with e | e
      · exact e
      · rcases List.mem_cons.mp ((h y).mpr List.mem_cons_self) with e2 | e2
        · exact e2.symm
        · have c1 := b1 x e
          have c2 := a1 y e2
          omega
    subst e
    rw [pw_unique a2 b2 fun z => ?_]
    constructor
    · intro hz
      rcases List.mem_cons.mp ((h z).mp (List.mem_cons_of_mem _ hz)) with e | e
      · have := a1 z hz
        rw [e] at this
        omega
      · exact e
    · intro hz
      rcases List.mem_cons.mp ((h z).mpr (List.mem_cons_of_mem _ hz)) with e | e
      · have := b1 z hz
        rw [e] at this
        omega
      · exact e
def namesOf (rows : List Row) : List Str := names6.filter fun z => decide (z ∈ rows.map Prod.fst)
theorem namesOf_pw (rows : List Row) : (namesOf rows).Pairwise (fun a b => names6.idxOf a < names6.idxOf b) := List.Pairwise.filter _ names_pw
theorem namesOf_eq {rows : List Row} {ns : List Str} (hr : ∀ r ∈ rows, IsName r.1) (hs : sortedS ns = true) (nd : ns.Nodup) (hm : ∀ z, z ∈ ns ↔ z ∈ rows.map Prod.fst) : ns = namesOf rows := by
  have hmem : ∀ z ∈ ns, z ∈ names6 := fun z hz => by
    obtain ⟨r, h1, h2⟩ := List.mem_map.mp ((hm z).mp hz)
    rw [← h2]
    exact hr r h1
  have pw : ns.Pairwise (fun a b => names6.idxOf a < names6.idxOf b) := by
    cases ns with
    | nil => exact .nil
    | cons x l => exact chain_pw x l hs hmem nd
  refine pw_unique pw (namesOf_pw rows) fun z => ?_
  unfold namesOf
  rw [List.mem_filter, decide_eq_true_eq]
  exact ⟨fun h => ⟨hmem z h, (hm z).mp h⟩, fun h => (hm z).mpr h.2⟩
def rowT (n : Nat) (more : Turn) (r : Row) : Turn := lawSum (lawLeft r.2 (n : Int)) more
def rowsOf (rows : List Row) (z : Str) : List Row := rows.filter fun r => decide (r.1 = z)
def placeIn (rows : List Row) (n : Nat) (more : Turn) : Pl := (namesOf rows).map fun z => (z, inOrder ((rowsOf rows z).map (rowT n more)))
theorem lawSum_okb {a b : Nat} {x y : Turn} (h : TOk a x) (g : TOk b y) : TOk (a + b) (lawSum x y) := lawLeft_ok (Int.mul_pos h.1 g.1) (h.2.2.mul g.2.2)
theorem bd9 {n : Nat} (h : n ≤ 300) : Bd 9 (n : Int) := by
  unfold Bd
  show n < 512
  omega
theorem rowT_ok {n : Nat} {more : Turn} (h0 : 0 < n) (hn : n ≤ 300) (hm : TOk 84 more) (r : Row) : TOk 93 (rowT n more r) := lawSum_okb (lawLeft_ok (by omega) (bd9 hn)) hm
section
variable {P : Program} {w : World} {K : PySem.W.Frag} {mg : Str → Option Value} {base : Heap}
def sp_place : Sp := fun vs H Q _ => ∃ v1 v2 rows more, ∃ n : Nat, vs = [v1, .int (n : Int), v2] ∧ rList rRow H v1 rows ∧ RowsOk n rows ∧ 0 < n ∧ n ≤ 300 ∧ rTurn H v2 more ∧ TOk 84 more ∧ ∀ H' v, Same H H' → NewPl H H' v (placeIn rows n more) → Q v H'
theorem df__law_place (T : Txt K mg) : Df P w K mg base 5 "_law_place" ["_law_rows", "_law_n", "_law_more"] sp_place := by
  have D__law_sum := df__law_sum (P := P) (w := w) (base := base) T
  have D__law_left := df__law_left (P := P) (w := w) (base := base) T
  have D__law_sorted := df__law_sorted (P := P) (w := w) (base := base) T
  refine Df.mk T.a__law_place sc__law_place (fun _ _ _ _ _ _ us hl => match us, hl with | [_, _, _], _ => rfl) (fun vs H Q E h => ?_) (fun f cdv A outer s H vs Q E hr h => ?_)
  · obtain ⟨_, _, _, _, _, rfl, _⟩ := h
    rfl
  · obtain ⟨_, v2, rows, more, n, rfl, ⟨a, xs, rfl, ha, hp⟩, hok, hn0, hn, hr2, br, q⟩ := h
    refine ⟨_, (pss_cons (ps_set (i := 3) sc__law_place.nd rfl (.inl rfl) (pe_lst pa_nil))
  (pss_cons (ps_for PassesOwn.never rfl (pi_listK (K := K) rfl (pe_callB (cr_sortedSS (by rfl)) (by rfl) T.z_sorted bt_sorted (pa_cons (pe_callTy (cr_setS (by rfl)) (by rfl) T.z_set bt_set (pa_cons (pe_lc (own := [("_law_row", 6)]) (g := gName 6) (tt := tYes) (by rfl) sc__law_place.nd (pi_listK (K := K) rfl (pv 0)) (blkOk_by (own := [("_law_row", 6)]) (N := ["_law_rows", "_law_n", "_law_more", "_law_found", "_law_name", "_law_turns_here", "_law_row", "_law_label", "_law_j"]) (sc := defScope s__law_place) (by decide +kernel)) (fun _ _ _ _ _ => (pg_name (i := 6) sc__law_place.nd rfl (.inl rfl))) (fun _ _ _ _ _ => pts_nil) (fun _ _ _ _ _ => (pe_ix (ix_tupK (K := K) rfl) (pv 6) pe_int (fun _ _ => rfl)))) pa_nil)) pa_nil))) (pg_name (i := 4) sc__law_place.nd rfl (.inr rfl))
  (pss_cons (ps_setLc (i := 5) (own := [("_law_label", 7), ("_law_j", 8)]) (g := gTup K 2 (gCons (gName 7) (gCons (gName 8) gNil))) (by rfl) sc__law_place.nd rfl rfl (sw_true rfl rfl rfl (by decide +kernel)) (pi_listK (K := K) rfl (pv 0)) (blkOk_by (own := [("_law_label", 7), ("_law_j", 8)]) (N := ["_law_rows", "_law_n", "_law_more", "_law_found", "_law_name", "_law_turns_here", "_law_row", "_law_label", "_law_j"]) (sc := defScope s__law_place) (by decide +kernel)) (fun _ _ _ _ _ => (pg_tup rfl (pgs_cons (pg_name (i := 7) sc__law_place.nd rfl (.inl rfl)) (pgs_cons (pg_name (i := 8) sc__law_place.nd rfl (.inl rfl)) pgs_nil)))) (fun _ _ _ _ _ => (pts_one (pt_cmpR op_eq (pv 7) (pv 4) (nomark _)))) (fun _ _ _ _ _ => (pe_df D__law_sum hr (by decide) (by rfl) (pa_cons (pe_df D__law_left hr (by decide) (by rfl) (pa_cons (pv 8) (pa_cons (pv 1) pa_nil))) (pa_cons (pv 2) pa_nil)))))
  (pss_one (ps_expr (pe_bm PySem.F.plainAttrs_list PySem.F.slot_list_append PySem.F.type_list_append mt_append (pv 3) (pa_cons (pe_tup (pa_cons (pv 4) (pa_cons (pe_df D__law_sorted hr (by decide) (by rfl) (pa_cons (pv 5) pa_nil)) pa_nil))) pa_nil))))))
  (pss_one (ps_ret (pv 3))))), ?_⟩
    have hl : xs.length = rows.length := PySem.Paired.length hp
    have h6 := hok.1
    have hz : xs.length ≤ sizeLine := small100 (by omega)
    refine ⟨Nat.zero_le _, fun D hD => ?_⟩
    have s0 := same_upd (o := .lst []) hD
    refine ⟨_, rfl, a, rfl, ⟨xs, SqL_of (s0 _ _ ha)⟩, fun D1 hD1 => lc_fm (walk_list (K := K) (a := a) (xs := xs)) rStr_tm (fun i => rows[i]?.map Prod.fst) hz hD1 (fun H' s' => SqL_of (s' _ _ (s0 _ _ ha))) (fun i x H2 H2' hi s2 hy Qe Ne hq hne => ?_) (fun H2 s2 hL => ?_)⟩
    · obtain ⟨rfl, hx⟩ := hy
      obtain ⟨r, hr1, p, x1, x2, rfl, hp1, r1, r2⟩ := Paired.get hp hx
      have hp2 := s2 _ _ (s0 _ _ hp1)
      exact ⟨rfl, yes_go ⟨_, rfl, _, _, _, _, rfl, rfl, SqT_of hp2, i0, hq _ _ _ (Same.refl _) (by rw [hr1]; rfl) r1⟩⟩
    · rw [hl, fm_map] at hL
      obtain ⟨D1', ys, e1, nD1, hD1', hpy⟩ := hL
      cases e1
      have ey : ys = (rows.map Prod.fst).map V.str := by
        clear hD1'
        generalize rows.map Prod.fst = l at hpy
        induction hpy with
        | nil => rfl
        | cons r t ih => rw [List.map_cons, ← ih, show _ = _ from r]
      rw [ey] at hD1'
      refine ⟨D1, rows.map Prod.fst, rfl, SqL_of hD1', by rw [List.length_map]; omega, fun S c nS hcl => ⟨S, _, c, rfl, upd_same, by rw [List.length_map] at hcl; omega, fun ns p hs nd hm hnl np => ?_⟩⟩
      have sS := same_upd (o := TexO w S (fun k => decide (k ∈ rows.map Prod.fst)) c) nS
      have sp := same_upd (o := .lst (ns.map V.str)) np
      have hns : ns = namesOf rows := namesOf_eq (fun r hr => (hok.2.1 r hr).1) hs nd (fun z => by rw [hm z, decide_eq_true_eq])
      have hnl6 : ns.length ≤ 6 := by
        rw [List.length_map] at hcl
        omega
      have s3 := (s2.trans sS).trans sp
      have hD3 := s3 _ _ (upd_same (H := H) (a := D) (o := .lst []))
      have hpD : p ≠ D := (ne_of_none ((s2.trans sS) _ _ (upd_same (H := H) (a := D) (o := .lst []))) np).symm
      subst hns
      refine ⟨p, rfl, ⟨_, SqL_of upd_same⟩, for_it (walk_list (K := K) (a := p) (xs := (namesOf rows).map V.str))
        (fun i σ H' => ∃ y4 y5 y6 y7 y8, σ = [some (.ref a), some (.int (n : Int)), some v2, some (.ref D), y4, y5, y6, y7, y8] ∧ Same H H' ∧ H' p = some (.lst ((namesOf rows).map V.str)) ∧ ∃ zs ls, H' D = some (.lst zs) ∧ zs.length = i ∧ RowsAt H H' zs (((namesOf rows).take i).map fun z => (z, inOrder ((rowsOf rows z).map (rowT n more)))) ls ∧ D ∉ ls) ?_ (fun i σ H' _ h => ?_) (fun i x σ H1 H1' hi h hy => ?_) (fun σ H1 h => ?_)⟩
      · exact ⟨none, none, none, none, none, rfl, s0.trans s3, upd_same, [], [], hD3, rfl, .nil, by simp⟩
      · obtain ⟨_, _, _, _, _, _, _, h1, _⟩ := h
        exact SqL_of h1
      · obtain ⟨y4, y5, y6, y7, y8, rfl, s1, hpp, zs, ls, hzs, hlz, hrow, hDl⟩ := h
        obtain ⟨rfl, hx⟩ := hy
        rw [List.getElem?_map] at hx
        obtain ⟨z, hzi, rfl⟩ := Option.map_eq_some_iff.mp hx
        have ha1 := s1 _ _ ha
        refine ⟨_, rfl, a, rfl, ⟨xs, SqL_of ha1⟩, fun D2 hD2 => lc_fm (walk_list (K := K) (a := a) (xs := xs)) rTurn_tm (fun i => rows[i]?.bind fun r => if decide (r.1 = z) = true then some (rowT n more r) else none) hz hD2 (fun H' s' => SqL_of (s' _ _ ha1)) (fun j x H4 H4' hj s4 hy2 Qe Ne hq hne => ?_) (fun H4 s4 hL2 => ?_)⟩
        · obtain ⟨rfl, hx2⟩ := hy2
          obtain ⟨r, hr1, t, x1, x2, rfl, ht, r1, r2⟩ := Paired.get hp hx2
          obtain rfl : x1 = .str r.1 := r1
          obtain rfl : x2 = .int r.2 := r2
          have ht4 := s4 _ _ (s1 _ _ ht)
          refine ⟨t, _, rfl, SqT_of ht4, rfl, _, _, rfl, _, _, rfl, rfl, rfl, _, rfl, _, rfl, rfl, _, rfl, ite2 (fun hd => ?_) (fun hd => ?_)⟩
          · have hd' : r.1 = z := V.str.inj (of_decide_eq_true hd)
            refine ⟨_, rfl, _, rfl, _, _, rfl, by omega, (bd9 hn).mono (by decide), fun H5 v5 s5 r5 => ⟨_, rfl, _, _, _, _, rfl, r5, rTurn_mono.go ((s1.trans s4).trans s5) hr2, (lawLeft_ok (by omega) (bd9 hn)).mono (by decide), br.mono (by decide), fun H6 v6 s6 r6 => hq _ _ _ (s5.trans s6) (by rw [hr1]; exact if_pos (decide_eq_true hd')) r6⟩⟩
          · have hd' : ¬ r.1 = z := fun h => hd (decide_eq_true (congrArg V.str h))
            exact hne _ (Same.refl _) (by rw [hr1]; exact if_neg (fun h => hd' (of_decide_eq_true h)))
        · rw [hl, fm_opt, filter_map_fm] at hL2
          have h3 := hok.2.2 z
          refine ⟨_, rfl, .inl ⟨rfl, _, SqL_of (s4 _ _ hzs)⟩, _, rfl, _, rfl, _, _, rfl, hL2.list, by rw [List.length_map]; exact h3, fun t ht => ?_, fun H3 v3 s3' hN => ?_⟩
          · obtain ⟨r0, h0, rfl⟩ := List.mem_map.mp ht
            exact (rowT_ok hn0 hn br r0).mono (by decide)
          · obtain ⟨l, ys2, rfl, hln, hll, hpy2⟩ := hN
            refine ⟨by show 2 ≤ sizeLine; decide, fun c2 nc => ?_⟩
            have s13 : Same H1' H3 := s4.trans s3'
            have sc := same_upd (o := .tup [.str z, .ref l]) nc
            have hD4 : upd H3 c2 (.tup [.str z, .ref l]) D = some (.lst zs) := sc _ _ (s13 _ _ hzs)
            have hzl : zs.length < sizeLine := by
              have := small200 (n := zs.length) (by rw [hlz]; rw [List.length_map] at hi; omega)
              omega
            refine ⟨D, _, _, rfl, rfl, hD4, hzl, _, _, _, _, _, rfl, ?_⟩
            have tsD : TSame (upd H3 c2 (.tup [.str z, .ref l])) (upd (upd H3 c2 (.tup [.str z, .ref l])) D (.lst (zs ++ [.ref c2]))) := .lst hD4
            have hlD : l ≠ D := (ne_of_none (s4 _ _ hzs) hln).symm
            have hcD : c2 ≠ D := (ne_of_none (s13 _ _ hzs) nc).symm
            have hlc : l ≠ c2 := ne_of_none hll nc
            refine ⟨Same.put hD ((s1.trans s13).trans sc), ?_, zs ++ [.ref c2], ls ++ [l], upd_same, by rw [List.length_append, hlz]; rfl, ?_, ?_⟩
            · rw [upd_ne hpD]
              exact sc _ _ (s13 _ _ hpp)
            · rw [take_map_succ hzi]
              refine RowsAt.snoc (t := c2) (l := l) (ys := ys2) ?_ ((s1.trans s4).free hln) ?_ ?_ ?_ ?_
              · rw [upd_ne hcD, upd_same]
              · rw [upd_ne hlD, upd_ne hlc]
                exact hll
              · exact Paired.tm rTurn_tm ((TSame.of sc).trans tsD) hpy2
              · refine RowsAt.keep ((TSame.of (s13.trans sc)).trans tsD) hrow fun k hk ys' hys => ?_
                rw [upd_ne (fun z => hDl (by rw [← z]; exact hk))]
                exact sc _ _ (s13 _ _ hys)
              · intro hk
                obtain ⟨_, ys', hys⟩ := hrow.there l hk
                rw [(s4 _ _ hys)] at hln
                cases hln
            · intro hk
              rcases List.mem_append.mp hk with e | e
              · exact hDl e
              · exact hlD (List.mem_singleton.mp e).symm
      · obtain ⟨y4, y5, y6, y7, y8, rfl, s1, hpp, zs, ls, hzs, hlz, hrow, hDl⟩ := h
        rw [List.length_map, List.take_length] at hrow
        exact ⟨_, rfl, q _ _ s1 ⟨D, zs, ls, rfl, hD, hzs, hrow, hDl⟩⟩
end
end K31

set_option Elab.async false
set_option linter.all false
set_option maxRecDepth 100000
set_option maxHeartbeats 1000000
namespace K31
open PySem PySem.Spec PyProof.Rows L2
theorem abc_at {i c : Nat} (h : ("abdkxz" : Str).cps[i]? = some c) : names6[i]? = some ⟨#[c]⟩ := by
  have hi : i < 6 := (Array.getElem?_eq_some_iff.mp h).1
  have hall : ∀ j : Fin 6, ∀ c : Nat, ("abdkxz" : Str).cps[j.val]? = some c → names6[j.val]? = some ⟨#[c]⟩ := by
    intro j c h
    match j, h with
    | ⟨0, _⟩, h => cases h; rfl
    | ⟨1, _⟩, h => cases h; rfl
    | ⟨2, _⟩, h => cases h; rfl
    | ⟨3, _⟩, h => cases h; rfl
    | ⟨4, _⟩, h => cases h; rfl
    | ⟨5, _⟩, h => cases h; rfl
  exact hall ⟨i, hi⟩ c h
def dII (x : Int × Int) : PyData := .tuple [.int x.1, .int x.2]
def dIIs (l : List (Int × Int)) : PyData := .list (l.map dII)
theorem fa_iis : Fa dIIs 2 (fun l => ∀ x ∈ l, True ∧ True) := fa_list (fa_pair fa_int fa_int)
theorem dp_iis {K : PySem.W.Frag} {H : Hp} {v : V} {l : List (Int × Int)} (h : rList rII H v l) : Dp K H v (dIIs l) := dp_list (f := dII) (fun h => dp_pair (f := .int) (g := .int) dp_int dp_int h) h
def dDot (l : List (List Int)) : PyData := .list (l.map fun k => .list (k.map .int))
theorem fa_dot : Fa dDot 2 (fun l => ∀ x ∈ l, ∀ y ∈ x, True) := fa_list (fa_list fa_int)
theorem dp_dot {K : PySem.W.Frag} {H : Hp} {v : V} {l : List (List Int)} (h : rList (rList rInt) H v l) : Dp K H v (dDot l) := dp_list (f := fun k : List Int => PyData.list (k.map .int)) (fun h => dp_list (f := .int) dp_int h) h
def dotOf (rows : List Row) (n : Nat) (z : Str) : List Int := if rowsOf rows z = [] then List.replicate n 0 else keyL n ((rowsOf rows z).map fun r => r.2.toNat)
def dotIn (rows : List Row) (n : Nat) : List (List Int) := names6.map (dotOf rows n)
theorem cut_tif {c : TT} {a b : TE} {σ : L2.St} {H : Hp} {Q : VK} (C : V → Hp → Prop) (h1 : ∀ Q : VK, (∀ v H', C v H' → Q v H') → tIf c a b σ H Q) (h2 : ∀ v H', C v H' → Q v H') : tIf c a b σ H Q := h1 Q h2
/-- inner lists that are not D -/
def rIL (D : Addr) : Rp (List Int) := fun H v l => ∃ p ys, v = .ref p ∧ p ≠ D ∧ H p = some (.lst ys) ∧ Paired (rInt H) ys l
theorem rIL_su {D : Addr} {H H' : Hp} (s : ∀ b o, b ≠ D → H b = some o → H' b = some o) {v : V} {l : List Int} (h : rIL D H v l) : rIL D H' v l := by
  obtain ⟨p, ys, e, hne, h1, h2⟩ := h
  exact ⟨p, ys, e, hne, s _ _ hne h1, h2⟩
theorem ils_su {D : Addr} {H H' : Hp} (s : ∀ b o, b ≠ D → H b = some o → H' b = some o) {zs : List V} {l : List (List Int)} (h : Paired (rIL D H) zs l) : Paired (rIL D H') zs l := L2.Paired.mapP h fun _ _ z => rIL_su s z
theorem ils_list {D : Addr} {H : Hp} {zs : List V} {l : List (List Int)} (h : Paired (rIL D H) zs l) : Paired (rList rInt H) zs l := L2.Paired.mapP h fun _ _ ⟨p, ys, e, _, h1, h2⟩ => ⟨p, ys, e, h1, h2⟩
theorem rep_pair {H : Hp} : ∀ n : Nat, Paired (rInt H) ((List.replicate n [V.int 0]).flatten) (List.replicate n 0)
  | 0 => .nil
  | n + 1 => by
    rw [List.replicate_succ, List.replicate_succ, List.flatten_cons]
    exact .cons rfl (rep_pair n)
section
variable {P : Program} {w : World} {K : PySem.W.Frag} {mg : Str → Option Value} {base : Heap}
def sp_dot : Sp := fun vs H Q _ => ∃ v1 rows, ∃ n : Nat, vs = [v1, .int (n : Int)] ∧ rList rRow H v1 rows ∧ RowsOk n rows ∧ 0 < n ∧ n ≤ 300 ∧ ∀ H' v, Same H H' → rList (rList rInt) H' v (dotIn rows n) → Q v H'
theorem df__law_dot (T : Txt K mg) : Df P w K mg base 2 "_law_dot" ["_law_rows", "_law_n"] sp_dot := by
  have D__law_key := df__law_key (P := P) (w := w) (base := base) T
  refine Df.mk T.a__law_dot sc__law_dot (fun _ _ _ _ _ _ us hl => match us, hl with | [_, _], _ => rfl) (fun vs H Q E h => ?_) (fun f cdv A outer s H vs Q E hr h => ?_)
  · obtain ⟨_, _, _, rfl, _⟩ := h
    rfl
  · obtain ⟨_, rows, n, rfl, ⟨a, xs, rfl, ha, hp⟩, hok, hn0, hn, q⟩ := h
    refine ⟨_, (pss_cons (ps_set (i := 2) sc__law_dot.nd rfl (.inl rfl) (pe_lst pa_nil))
  (pss_cons (ps_for PassesOwn.never rfl (pi_str pe_str) (pg_name (i := 3) sc__law_dot.nd rfl (.inr rfl))
  (pss_cons (ps_setLc (i := 4) (own := [("_law_label", 5), ("_law_j", 6)]) (g := gTup K 2 (gCons (gName 5) (gCons (gName 6) gNil))) (by rfl) sc__law_dot.nd rfl rfl (sw_true rfl rfl rfl (by decide +kernel)) (pi_listK (K := K) rfl (pv 0)) (blkOk_by (own := [("_law_label", 5), ("_law_j", 6)]) (N := ["_law_rows", "_law_n", "_law_found", "_law_name", "_law_those", "_law_label", "_law_j"]) (sc := defScope s__law_dot) (by decide +kernel)) (fun _ _ _ _ _ => (pg_tup rfl (pgs_cons (pg_name (i := 5) sc__law_dot.nd rfl (.inl rfl)) (pgs_cons (pg_name (i := 6) sc__law_dot.nd rfl (.inl rfl)) pgs_nil)))) (fun _ _ _ _ _ => (pts_one (pt_cmpR op_eq (pv 5) (pv 3) (nomark _)))) (fun _ _ _ _ _ => (pe_tup (pa_cons (pv 6) (pa_cons pe_int pa_nil)))))
  (pss_one (ps_expr (pe_bm PySem.F.plainAttrs_list PySem.F.slot_list_append PySem.F.type_list_append mt_append (pv 2) (pa_cons (pe_ifExp (pt_cmpR (op_neD hr.units) (pv 4) (pe_lst pa_nil) (nomark _)) (pe_df D__law_key hr (by decide) (by rfl) (pa_cons (pv 4) (pa_cons (pv 1) pa_nil))) (pe_op op_rep (pe_lst (pa_cons pe_int pa_nil)) (pv 1))) pa_nil))))))
  (pss_one (ps_ret (pv 2))))), ?_⟩
    have hl : xs.length = rows.length := PySem.Paired.length hp
    have h6 := hok.1
    have hz : xs.length ≤ sizeLine := small100 (by omega)
    have hns : n ≤ sizeLine := Nat.le_trans hn (by decide)
    refine ⟨Nat.zero_le _, fun D hD => ?_⟩
    have s0 := same_upd (o := .lst []) hD
    refine ⟨_, rfl, for_it (walk_str (z := "abdkxz"))
      (fun i σ H' => ∃ y3 y4 y5 y6, σ = [some (.ref a), some (.int (n : Int)), some (.ref D), y3, y4, y5, y6] ∧ Same H H' ∧ ∃ zs, H' D = some (.lst zs) ∧ Paired (rIL D H') zs ((names6.take i).map (dotOf rows n))) ?_ (fun _ _ _ _ _ => trivial) (fun i x σ H1 H1' hi h hy => ?_) (fun σ H1 h => ?_)⟩
    · exact ⟨none, none, none, none, rfl, s0, [], upd_same, .nil⟩
    · obtain ⟨y3, y4, y5, y6, rfl, s1, zs, hzs, hin⟩ := h
      obtain ⟨rfl, c, hc, rfl⟩ := hy
      have hzi := abc_at hc
      obtain ⟨z, rfl⟩ : ∃ z : Str, z = ⟨#[c]⟩ := ⟨_, rfl⟩
      have hi6 : i < 6 := (List.getElem?_eq_some_iff.mp hzi).1
      have ha1 := s1 _ _ ha
      have hzl : zs.length ≤ 6 := by
        rw [PySem.Paired.length hin, List.length_map, List.length_take]
        have : names6.length = 6 := rfl
        omega
      refine ⟨_, rfl, a, rfl, ⟨xs, SqL_of ha1⟩, fun D2 hD2 => lc_fm (walk_list (K := K) (a := a) (xs := xs)) rII_tm (fun i => rows[i]?.bind fun r => if decide (r.1 = (⟨#[c]⟩ : Str)) = true then some (r.2, 1) else none) hz hD2 (fun H' s' => SqL_of (s' _ _ ha1)) (fun j x H4 H4' hj s4 hy2 Qe Ne hq hne => ?_) (fun H4 s4 hL2 => ?_)⟩
      · obtain ⟨rfl, hx2⟩ := hy2
        obtain ⟨r, hr1, t, x1, x2, rfl, ht, r1, r2⟩ := Paired.get hp hx2
        obtain rfl : x1 = .str r.1 := r1
        obtain rfl : x2 = .int r.2 := r2
        have ht4 := s4 _ _ (s1 _ _ ht)
        refine ⟨t, _, rfl, SqT_of ht4, rfl, _, _, rfl, _, _, rfl, rfl, rfl, _, rfl, _, rfl, rfl, _, rfl, ite2 (fun hd => ?_) (fun hd => ?_)⟩
        · have hd' : r.1 = ⟨#[c]⟩ := V.str.inj (of_decide_eq_true hd)
          refine ⟨_, rfl, by show 2 ≤ sizeLine; decide, fun t2 hr' => hq _ _ (r.2, 1) (same_upd hr') (by rw [hr1]; exact if_pos (decide_eq_true hd')) ⟨t2, _, _, rfl, upd_same, rfl, rfl⟩⟩
        · have hd' : ¬ r.1 = ⟨#[c]⟩ := fun h => hd (decide_eq_true (congrArg V.str h))
          exact hne _ (Same.refl _) (by rw [hr1]; exact if_neg (fun h => hd' (of_decide_eq_true h)))
      · rw [hl, fm_opt, filter_map_fm] at hL2
        have hD4 := s4 _ _ hzs
        refine ⟨_, rfl, .inl ⟨rfl, _, SqL_of hD4⟩, ?_⟩
        dsimp only [tCons]
        refine cut_tif (fun v H' => Same H4 H' ∧ rIL D H' v (dotOf rows n ⟨#[c]⟩)) (fun Q hQ => ?_) (fun v H5 hC => ?_)
        · refine ⟨_, rfl, Nat.zero_le _, fun e ne => ?_⟩
          have se := same_upd (o := .lst []) ne
          have hLe := (rList_mono rII_tm.mono).go se hL2.list
          refine cmp_ne fa_iis (by decide) (dp_iis hLe) (dp_iis (l := []) ⟨e, [], rfl, upd_same, .nil⟩) (fun _ _ => ⟨trivial, trivial⟩) (fun _ _ => ⟨trivial, trivial⟩) ⟨_, rfl, ite2 (fun hd => ?_) (fun hd => ?_)⟩
          · have hne : ¬ rowsOf rows ⟨#[c]⟩ = [] := fun h => by
              unfold rowsOf at h
              rw [h] at hd
              exact absurd hd (by decide)
            refine ⟨_, rfl, _, rfl, _, n, (rowsOf rows ⟨#[c]⟩).map fun r => r.2.toNat, rfl, ?_, hn0, hn, fun j hj => ?_, fun H5 v5 s5 hN => ?_⟩
            · have e2 : ((rowsOf rows ⟨#[c]⟩).map fun r => r.2.toNat).map (fun j : Nat => ((j : Int), (1 : Int))) = (rowsOf rows ⟨#[c]⟩).map fun r => (r.2, (1 : Int)) := by
                rw [List.map_map]
                refine List.map_congr_left fun r hr => ?_
                have hm := hok.2.1 r (List.mem_filter.mp hr).1
                show ((r.2.toNat : Int), (1 : Int)) = (r.2, 1)
                rw [show (r.2.toNat : Int) = r.2 by omega]
              rw [e2]
              exact hLe
            · obtain ⟨r, hr, rfl⟩ := List.mem_map.mp hj
              have hm := hok.2.1 r (List.mem_filter.mp hr).1
              omega
            · obtain ⟨p, ys, rfl, hpn, hpy, hpp⟩ := hN
              refine hQ _ _ ⟨se.trans s5, p, ys, rfl, fun z => ?_, hpy, ?_⟩
              · rw [z, se _ _ hD4] at hpn
                cases hpn
              · unfold dotOf
                rw [if_neg hne]
                exact hpp
          · have he : rowsOf rows ⟨#[c]⟩ = [] := by
              by_cases h : rowsOf rows ⟨#[c]⟩ = []
              · exact h
              · refine absurd ?_ hd
                rw [decide_eq_false]
                · rfl
                · intro h2
                  exact h (List.map_eq_nil_iff.mp h2)
            refine ⟨by show 1 ≤ sizeLine; decide, fun z nz => ⟨_, rfl, z, (n : Int), [.int 0], rfl, rfl, upd_same, by omega, by have := line63; omega, by show 1 * (n : Int).toNat ≤ sizeLine; omega, fun f0 nf => ?_⟩⟩
            have sz := same_upd (o := .lst [.int 0]) nz
            have sf := same_upd (o := .lst ((List.replicate ((n : Int)).toNat [V.int 0]).flatten)) nf
            refine hQ _ _ ⟨(se.trans sz).trans sf, f0, _, rfl, fun z2 => ?_, upd_same, ?_⟩
            · rw [z2, sz _ _ (se _ _ hD4)] at nf
              cases nf
            · unfold dotOf
              rw [if_pos he]
              exact rep_pair n
        · obtain ⟨s5, hil⟩ := hC
          have hD5 := s5 _ _ hD4
          have s15 := s4.trans s5
          refine ⟨D, zs, _, rfl, rfl, hD5, small200 (by omega), _, _, _, _, rfl, Same.put hD (s1.trans s15), zs ++ [v], upd_same, ?_⟩
          have sD : ∀ b o, b ≠ D → H5 b = some o → upd H5 D (.lst (zs ++ [v])) b = some o := fun b o hb e => by
            rw [upd_ne hb]
            exact e
          rw [take_map_succ hzi]
          exact Paired.app (ils_su sD (ils_su (fun b o _ e => s15 _ _ e) hin)) (.cons (rIL_su sD hil) .nil)
    · obtain ⟨y3, y4, y5, y6, rfl, s1, zs, hzs, hin⟩ := h
      exact ⟨_, rfl, q _ _ s1 ⟨D, zs, rfl, hzs, ils_list hin⟩⟩
end
end K31

set_option Elab.async false
set_option linter.all false
set_option maxRecDepth 100000
set_option maxHeartbeats 1000000
namespace K31
open PySem PySem.Spec PyProof.Rows L2
theorem RowsOk.sub {n : Nat} {l l' : List Row} (h : RowsOk n l) (s : List.Sublist l' l) : RowsOk n l' :=
  ⟨Nat.le_trans s.length_le h.1, fun r hr => h.2.1 r (s.mem hr), fun z => Nat.le_trans (s.filter _).length_le (h.2.2 z)⟩
theorem RowsOk.perm {n : Nat} {l l' : List Row} (h : RowsOk n l) (s : l'.Perm l) : RowsOk n l' :=
  ⟨by rw [s.length_eq]; exact h.1, fun r hr => h.2.1 r (s.mem_iff.mp hr), fun z => by rw [(s.filter _).length_eq]; exact h.2.2 z⟩
theorem rowsOf_ne {ds : List Row} {z z' : Str} (h : ∀ r ∈ ds, r.1 = z) (hz : ¬ z = z') : ds.filter (fun r => decide (r.1 = z')) = [] := by
  rw [List.filter_eq_nil_iff]
  intro r hr
  rw [decide_eq_true_eq, h r hr]
  exact hz
theorem RowsOk.add {n : Nat} {l ds : List Row} {z : Str} (h : RowsOk n l) (he : rowsOf l z = []) (hz : IsName z) (hd : ∀ r ∈ ds, r.1 = z ∧ 0 ≤ r.2 ∧ r.2 < (n : Int)) (h3 : ds.length ≤ 3) (h6 : l.length + ds.length ≤ 6) : RowsOk n (l ++ ds) := by
  refine ⟨by rw [List.length_append]; exact h6, fun r hr => ?_, fun z' => ?_⟩
  · rcases List.mem_append.mp hr with e | e
    · exact h.2.1 r e
    · obtain ⟨e1, e2⟩ := hd r e
      exact ⟨by rw [e1]; exact hz, e2⟩
  · rw [List.filter_append, List.length_append]
    by_cases hzz : z = z'
    · subst hzz
      have e1 : (l.filter fun r => decide (r.1 = z)).length = 0 := by
        rw [show l.filter (fun r => decide (r.1 = z)) = [] from he]
        rfl
      have := List.length_filter_le (fun r : Row => decide (r.1 = z)) ds
      omega
    · rw [rowsOf_ne (fun r hr => (hd r hr).1) hzz]
      exact h.2.2 z'
theorem rowsOf_less {l : List Row} {z : Str} : rowsOf (l.filter fun r => decide (¬ r.1 = z)) z = [] := by
  unfold rowsOf
  rw [List.filter_filter, List.filter_eq_nil_iff]
  intro r _
  by_cases h : r.1 = z
  · simp [h]
  · simp [h]
theorem less_len (l : List Row) (z : Str) : (l.filter fun r => decide (¬ r.1 = z)).length + (rowsOf l z).length = l.length := by
  unfold rowsOf
  induction l with
  | nil => rfl
  | cons r l ih =>
    rw [List.filter_cons, List.filter_cons]
    by_cases h : r.1 = z
    · rw [if_neg (by simp [h]), if_pos (by simp [h]), List.length_cons, List.length_cons]
      omega
    · rw [if_pos (by simp [h]), if_neg (by simp [h]), List.length_cons, List.length_cons]
      omega
theorem RowsOk.swap {n : Nat} {r : Row} {l : List Row} {j : Int} (h : RowsOk n (r :: l)) (h0 : 0 ≤ j) (h1 : j < (n : Int)) : RowsOk n ((r.1, j) :: l) := by
  refine ⟨h.1, fun x hx => ?_, fun z => ?_⟩
  · rcases List.mem_cons.mp hx with e | e
    · rw [e]
      exact ⟨(h.2.1 r List.mem_cons_self).1, h0, h1⟩
    · exact h.2.1 x (List.mem_cons_of_mem _ e)
  · have := h.2.2 z
    rw [List.filter_cons] at this ⊢
    by_cases hz : r.1 = z
    · rw [if_pos (by simp [hz])] at this ⊢
      exact this
    · rw [if_neg (by simp [hz])] at this ⊢
      exact this
theorem cut_drop (xs : List V) : cutV xs (some 1) none = xs.drop 1 := by
  have e : HT.sIx xs.length 0 (some 1) = min 1 xs.length := HT.sIx_nat xs.length 0 1
  unfold cutV
  rw [e, HT.sIx_none]
  cases xs with
  | nil => rfl
  | cons x r =>
    have e2 : min 1 (x :: r).length = 1 := by
      rw [List.length_cons]
      omega
    rw [e2]
    refine List.take_of_length_le ?_
    rw [List.length_drop]
    omega
theorem Paired.drop1 {α β : Type} {F : α → β → Prop} : ∀ {l : List α} {m : List β}, Paired F l m → Paired F (l.drop 1) (m.drop 1)
  | _, _, .nil => .nil
  | _, _, .cons _ t => t
section
variable {P : Program} {w : World} {K : PySem.W.Frag} {mg : Str → Option Value} {base : Heap}
def sp_same_rows : Sp := fun vs H Q _ => ∃ (u : Addr) (n c : Nat) (v1 : V) (rows : List Row), vs = [.ref u, v1, .int (n : Int)] ∧ UrnAt H u c ∧ c ≤ 400 ∧ rList rRow H v1 rows ∧ v1 ≠ .ref u ∧ RowsOk n rows ∧ 0 < n ∧ n ≤ 300 ∧ ∀ H' v' l, SU u H H' → UrnAt H' u (c + 16) → NewL rRow H H' v' l → RowsOk n l → Q v' H'
theorem df__law_same_rows (T : Txt K mg) : Df P w K mg base 3 "_law_same_rows" ["_law_urn_here", "_law_rows", "_law_n"] sp_same_rows := by
  have D__law_pick := df__law_pick (P := P) (w := w) (base := base) T
  have D__law_shuffled := df__law_shuffled (P := P) (w := w) (base := base) T
  refine Df.mk T.a__law_same_rows sc__law_same_rows (fun _ _ _ _ _ _ us hl => match us, hl with | [_, _, _], _ => rfl) (fun vs H Q E h => ?_) (fun f cdv A outer s H vs Q E hr h => ?_)
  · obtain ⟨_, _, _, _, _, rfl, _⟩ := h
    rfl
  · obtain ⟨u, n, c, _, rows, rfl, hu, hc, ⟨a, xs, rfl, ha, hp⟩, hau', hok, hn0, hn, q⟩ := h
    refine ⟨_, (pss_cons (ps_set (i := 3) sc__law_same_rows.nd rfl (.inl rfl) (pe_df D__law_shuffled hr (by decide) (by rfl) (pa_cons (pv 0) (pa_cons (pv 1) pa_nil))))
  (pss_cons (ps_set (i := 4) sc__law_same_rows.nd rfl (.inl rfl) (pe_op op_cat (pe_lc (own := [("_law_row", 9)]) (g := gName 9) (tt := tYes) (by rfl) sc__law_same_rows.nd (pi_listK (K := K) rfl (pv 1)) (blkOk_by (own := [("_law_row", 9)]) (N := ["_law_urn_here", "_law_rows", "_law_n", "_law_found", "_law_names", "_law_way", "_law_name", "_law_j", "_law_those", "_law_row", "_law_k"]) (sc := defScope s__law_same_rows) (by decide +kernel)) (fun _ _ _ _ _ => (pg_name (i := 9) sc__law_same_rows.nd rfl (.inl rfl))) (fun _ _ _ _ _ => pts_nil) (fun _ _ _ _ _ => (pe_ix (ix_tupK (K := K) rfl) (pv 9) pe_int (fun _ _ => rfl)))) (pe_lst (pa_cons pe_str (pa_cons pe_str pa_nil)))))
  (pss_cons (ps_asg (pe_tup (pa_cons (pe_df D__law_pick hr (by decide) (by rfl) (pa_cons (pv 0) (pa_cons pe_int pa_nil))) (pa_cons (pe_ix (ix_listK (K := K) rfl) (pv 4) (pe_df D__law_pick hr (by decide) (by rfl) (pa_cons (pv 0) (pa_cons (pe_callB call_len_seq (by rfl) T.z_len bt_len (pa_cons (pv 4) pa_nil)) pa_nil))) (fun _ _ => rfl)) (pa_cons (pe_df D__law_pick hr (by decide) (by rfl) (pa_cons (pv 0) (pa_cons (pv 2) pa_nil))) pa_nil)))) (pg_tup rfl (pgs_cons (pg_name (i := 5) sc__law_same_rows.nd rfl (.inl rfl)) (pgs_cons (pg_name (i := 6) sc__law_same_rows.nd rfl (.inr rfl)) (pgs_cons (pg_name (i := 7) sc__law_same_rows.nd rfl (.inr rfl)) pgs_nil)))))
  (pss_cons (ps_set (i := 8) sc__law_same_rows.nd rfl (.inr rfl) (pe_lc (own := [("_law_row", 9)]) (g := gName 9) (by rfl) sc__law_same_rows.nd (pi_listK (K := K) rfl (pv 3)) (blkOk_by (own := [("_law_row", 9)]) (N := ["_law_urn_here", "_law_rows", "_law_n", "_law_found", "_law_names", "_law_way", "_law_name", "_law_j", "_law_those", "_law_row", "_law_k"]) (sc := defScope s__law_same_rows) (by decide +kernel)) (fun _ _ _ _ _ => (pg_name (i := 9) sc__law_same_rows.nd rfl (.inl rfl))) (fun _ _ _ _ _ => (pts_one (pt_cmpR op_eq (pe_ix (ix_tupK (K := K) rfl) (pv 9) pe_int (fun _ _ => rfl)) (pv 6) (nomark _)))) (fun _ _ _ _ _ => (pv 9))))
  (pss_cons (ps_if (PW.pt (pw_and (pt_cmpR op_eq (pv 5) pe_int (nomark _)) (pw_and (pt_cmpR (op_eqD hr.units) (pv 8) (pe_lst pa_nil) (nomark _)) (pw_and (pt_cmpR op_lt (pe_callB call_len_seq (by rfl) T.z_len bt_len (pa_cons (pv 3) pa_nil)) pe_int (nomark _)) (pw_and1 (pt_cmpR op_eq (pe_op op_mod (pe_callTy call_int1 (by rfl) T.z_int bt_int (pa_cons (pv 2) pa_nil)) pe_int) pe_int (nomark _))))))) (pss_one (ps_set (i := 3) sc__law_same_rows.nd rfl (.inl rfl) (pe_op op_cat (pv 3) (pe_lst (pa_cons (pe_tup (pa_cons (pv 6) (pa_cons (pv 7) pa_nil))) (pa_cons (pe_tup (pa_cons (pv 6) (pa_cons (pe_op op_mod (pe_callTy call_int1 (by rfl) T.z_int bt_int (pa_cons (pe_op op_add (pv 7) (pe_op op_fdivW (pv 2) pe_int)) pa_nil)) (pv 2)) pa_nil))) pa_nil)))))) pss_nil)
  (pss_cons (ps_if (PW.pt (pw_and (pt_cmpR op_eq (pv 5) pe_int (nomark _)) (pw_and (pt_cmpR (op_eqD hr.units) (pv 8) (pe_lst pa_nil) (nomark _)) (pw_and (pt_cmpR op_lt (pe_callB call_len_seq (by rfl) T.z_len bt_len (pa_cons (pv 3) pa_nil)) pe_int (nomark _)) (pw_and1 (pt_cmpR op_eq (pe_op op_mod (pe_callTy call_int1 (by rfl) T.z_int bt_int (pa_cons (pv 2) pa_nil)) pe_int) pe_int (nomark _))))))) (pss_one (ps_set (i := 3) sc__law_same_rows.nd rfl (.inl rfl) (pe_op op_cat (pv 3) (pe_lc (own := [("_law_k", 10)]) (g := gName 10) (tt := tYes) (by rfl) sc__law_same_rows.nd (pi_range1 (by rfl) T.z_range (pa_cons pe_int pa_nil)) (blkOk_by (own := [("_law_k", 10)]) (N := ["_law_urn_here", "_law_rows", "_law_n", "_law_found", "_law_names", "_law_way", "_law_name", "_law_j", "_law_those", "_law_row", "_law_k"]) (sc := defScope s__law_same_rows) (by decide +kernel)) (fun _ _ _ _ _ => (pg_name (i := 10) sc__law_same_rows.nd rfl (.inl rfl))) (fun _ _ _ _ _ => pts_nil) (fun _ _ _ _ _ => (pe_tup (pa_cons (pv 6) (pa_cons (pe_op op_mod (pe_callTy call_int1 (by rfl) T.z_int bt_int (pa_cons (pe_op op_add (pv 7) (pe_op op_mulW (pv 10) (pe_op op_fdivW (pv 2) pe_int))) pa_nil)) (pv 2)) pa_nil)))))))) pss_nil)
  (pss_cons (ps_if (PW.pt (pw_and (pt_cmpR op_eq (pv 5) pe_int (nomark _)) (pw_and (pt_cmpR op_eq (pe_callB call_len_seq (by rfl) T.z_len bt_len (pa_cons (pv 8) pa_nil)) pe_int (nomark _)) (pw_and (pt_cmpR op_lt (pe_callB call_len_seq (by rfl) T.z_len bt_len (pa_cons (pv 3) pa_nil)) pe_int (nomark _)) (pw_and1 (pt_cmpR op_eq (pe_op op_mod (pe_callTy call_int1 (by rfl) T.z_int bt_int (pa_cons (pv 2) pa_nil)) pe_int) pe_int (nomark _))))))) (pss_cons (ps_setLc (i := 3) (own := [("_law_row", 9)]) (g := gName 9) (by rfl) sc__law_same_rows.nd rfl rfl (sw_true rfl rfl rfl (by decide +kernel)) (pi_listK (K := K) rfl (pv 3)) (blkOk_by (own := [("_law_row", 9)]) (N := ["_law_urn_here", "_law_rows", "_law_n", "_law_found", "_law_names", "_law_way", "_law_name", "_law_j", "_law_those", "_law_row", "_law_k"]) (sc := defScope s__law_same_rows) (by decide +kernel)) (fun _ _ _ _ _ => (pg_name (i := 9) sc__law_same_rows.nd rfl (.inl rfl))) (fun _ _ _ _ _ => (pts_one (pt_cmpR op_ne (pe_ix (ix_tupK (K := K) rfl) (pv 9) pe_int (fun _ _ => rfl)) (pv 6) (nomark _)))) (fun _ _ _ _ _ => (pv 9)))
  (pss_one (ps_set (i := 3) sc__law_same_rows.nd rfl (.inl rfl) (pe_op op_cat (pv 3) (pe_lc (own := [("_law_k", 10)]) (g := gName 10) (tt := tYes) (by rfl) sc__law_same_rows.nd (pi_tup (pe_tup (pa_cons (pe_un un_neg pe_int) (pa_cons pe_int pa_nil)))) (blkOk_by (own := [("_law_k", 10)]) (N := ["_law_urn_here", "_law_rows", "_law_n", "_law_found", "_law_names", "_law_way", "_law_name", "_law_j", "_law_those", "_law_row", "_law_k"]) (sc := defScope s__law_same_rows) (by decide +kernel)) (fun _ _ _ _ _ => (pg_name (i := 10) sc__law_same_rows.nd rfl (.inl rfl))) (fun _ _ _ _ _ => pts_nil) (fun _ _ _ _ _ => (pe_tup (pa_cons (pv 6) (pa_cons (pe_op op_mod (pe_callTy call_int1 (by rfl) T.z_int bt_int (pa_cons (pe_op op_add (pe_ix (ix_tupK (K := K) rfl) (pe_ix (ix_listK (K := K) rfl) (pv 8) pe_int (fun _ _ => rfl)) pe_int (fun _ _ => rfl)) (pe_op op_mulW (pv 10) (pe_op op_fdivW (pv 2) pe_int))) pa_nil)) (pv 2)) pa_nil))))))))) pss_nil)
  (pss_cons (ps_if (PW.pt (pw_and (pt_cmpR op_eq (pv 5) pe_int (nomark _)) (pw_and1 (pt_cmpR (op_neD hr.units) (pv 3) (pe_lst pa_nil) (nomark _))))) (pss_one (ps_set (i := 3) sc__law_same_rows.nd rfl (.inl rfl) (pe_slice sl_list (pv 3) (po_some pe_int) po_none))) pss_nil)
  (pss_cons (ps_if (PW.pt (pw_and (pt_cmpR op_eq (pv 5) pe_int (nomark _)) (pw_and1 (pt_cmpR (op_neD hr.units) (pv 3) (pe_lst pa_nil) (nomark _))))) (pss_one (ps_set (i := 3) sc__law_same_rows.nd rfl (.inl rfl) (pe_op op_cat (pe_lst (pa_cons (pe_tup (pa_cons (pe_ix (ix_tupK (K := K) rfl) (pe_ix (ix_listK (K := K) rfl) (pv 3) pe_int (fun _ _ => rfl)) pe_int (fun _ _ => rfl)) (pa_cons (pv 7) pa_nil))) pa_nil)) (pe_slice sl_list (pv 3) (po_some pe_int) po_none)))) pss_nil)
  (pss_one (ps_ret (pv 3)))))))))))), ?_⟩
    have hau : a ≠ u := fun z => hau' (by rw [z])
    have hl : xs.length = rows.length := PySem.Paired.length hp
    have h6 := hok.1
    have hz : xs.length ≤ sizeLine := small100 (by omega)
    have bsm : ∀ z : Int, 0 ≤ z → z ≤ 300 → Bd 8000 z := fun z z0 z1 => Bd.mono (a := 9) (by unfold Bd; show z.natAbs < 512; omega) (by decide)
    refine ⟨_, rfl, _, rfl, Row, rRow, u, c, .ref a, rows, rfl, rRow_tm, ⟨a, xs, rfl, ha, hp⟩, hau', hu, by omega, by omega, fun H1 v1 l0 sU1 hU1 hN1 hperm => ?_⟩
    obtain ⟨f0, fs0, rfl, nf0, hf0, hpf0⟩ := hN1
    have hok0 : RowsOk n l0 := hok.perm hperm
    have hlen0 : l0.length = rows.length := hperm.length_eq
    have hfl0 : fs0.length = l0.length := PySem.Paired.length hpf0
    have hf0u : f0 ≠ u := fun z => by
      obtain ⟨ys, hy⟩ := hu.lst
      rw [z, hy] at nf0
      cases nf0
    have ha1 := sU1 _ _ hau ha
    have hp1 := Paired.tm rRow_tm (SU.tup hu sU1) hp
    refine ⟨_, rfl, a, rfl, ⟨xs, SqL_of ha1⟩, fun D1 nD1 => lc_fm (walk_list (K := K) (a := a) (xs := xs)) rStr_tm (fun i => rows[i]?.map Prod.fst) hz nD1 (fun H' s' => SqL_of (s' _ _ ha1)) (fun i x H2 H2' hi s2 hy Qe Ne hq hne => ?_) (fun H2 s2 hL => ?_)⟩
    · obtain ⟨rfl, hx⟩ := hy
      obtain ⟨r, hr1, p, x1, x2, rfl, hpp, r1, r2⟩ := Paired.get hp1 hx
      exact ⟨rfl, yes_go ⟨_, rfl, _, _, _, _, rfl, rfl, SqT_of (s2 _ _ hpp), i0, hq _ _ _ (Same.refl _) (by rw [hr1]; rfl) r1⟩⟩
    · rw [hl, fm_map] at hL
      obtain ⟨D1', ys, e1, nD1', hD1, hpy⟩ := hL
      cases e1
      have hyl : ys.length = rows.length := by rw [PySem.Paired.length hpy, List.length_map]
      refine ⟨by show 2 ≤ sizeLine; decide, fun e ne => ?_⟩
      have se := same_upd (o := .lst [V.str "b", .str "k"]) ne
      have hDe := ne_of_none hD1 ne
      have hD1e := se _ _ hD1
      refine ⟨D1, e, ys, _, rfl, rfl, hD1e, upd_same, by have := small100 (n := ys.length + 2) (by omega); exact this, fun nm nnm => ?_⟩
      have snm := same_upd (o := .lst (ys ++ [V.str "b", .str "k"])) nnm
      have hnm : upd (upd H2 e (.lst [V.str "b", .str "k"])) nm (.lst (ys ++ [V.str "b", .str "k"])) nm = some (.lst (ys ++ [V.str "b", .str "k"])) := upd_same
      have s13 := (s2.trans se).trans snm
      have hpn : Paired (rStr H2) (ys ++ [V.str "b", .str "k"]) (rows.map Prod.fst ++ [("b" : Str), "k"]) := Paired.app hpy (.cons rfl (.cons rfl .nil))
      have hnamesOk : ∀ z ∈ rows.map Prod.fst ++ [("b" : Str), "k"], IsName z := fun z hz => by
        rcases List.mem_append.mp hz with h | h
        · obtain ⟨r, hr, rfl⟩ := List.mem_map.mp h
          exact (hok.2.1 r hr).1
        · have hbk : ∀ z ∈ [("b" : Str), "k"], z ∈ names6 := by decide +kernel
          exact hbk z h
      have hnml : (ys ++ [V.str "b", .str "k"]).length = rows.length + 2 := by rw [List.length_append, hyl]; rfl
      have hU3 := hU1.same s13
      have sU3 : SU u H1 (upd (upd H2 e (.lst [V.str "b", .str "k"])) nm (.lst (ys ++ [V.str "b", .str "k"]))) := SU.of s13
      have hnmu : nm ≠ u := by
        obtain ⟨ys, hy⟩ := (hU1.same (s2.trans se)).lst
        exact (ne_of_none hy nnm).symm
      generalize ys ++ [V.str "b", .str "k"] = nvs at hnm hpn hnml hU3 sU3
      generalize upd (upd H2 e (.lst [V.str "b", .str "k"])) nm (.lst nvs) = H3 at hnm hU3 sU3
      refine ⟨_, rfl, u, 6, _, rfl, hU3, by omega, by omega, bsm _ (by omega) (by omega), fun o4 way ho4 hw0 hw1 => ?_⟩
      have hnm4 : upd H3 u o4 nm = some (.lst nvs) := by
        rw [upd_ne hnmu]
        exact hnm
      refine ⟨_, rfl, _, rfl, _, rfl, nm, nvs, rfl, .inl (SqL_of hnm4), u, (nvs.length : Int), _, rfl, .put ho4, by omega, by omega, bsm _ (by omega) (by omega), fun o5 r5 ho5 h50 h51 => ?_⟩
      obtain ⟨z, hz5⟩ : ∃ z, (rows.map Prod.fst ++ [("b" : Str), "k"])[r5.toNat]? = some z := ⟨_, List.getElem?_eq_getElem (by rw [List.length_append, List.length_map]; show r5.toNat < rows.length + 2; omega)⟩
      have hzn : IsName z := hnamesOk z (List.mem_of_getElem? hz5)
      obtain ⟨vz, hvz, rvz⟩ := Paired.getR hpn hz5
      obtain rfl : vz = .str z := rvz
      have hnm5 : upd (upd H3 u o4) u o5 nm = some (.lst nvs) := by
        rw [upd_ne hnmu]
        exact hnm4
      refine ⟨nm, nvs, r5, .str z, rfl, rfl, SqL_of hnm5, atI_pos h50 hvz, _, rfl, _, rfl, u, (n : Int), _, rfl, .put ho5, by omega, by omega, bsm _ (by omega) (by omega), fun o6 j ho6 hj0 hj1 => ?_⟩
      refine ⟨by show 3 ≤ sizeLine; decide, fun t nt => ?_⟩
      have st := same_upd (o := .tup [.int way, .str z, .int j]) nt
      have sU6 : SU u H1 (upd (upd (upd (upd H3 u o4) u o5) u o6) t (.tup [.int way, .str z, .int j])) := ((((sU3.trans SU.upd).trans SU.upd).trans SU.upd).trans (SU.of st))
      have hU6 : UrnAt (upd (upd (upd (upd H3 u o4) u o5) u o6) t (.tup [.int way, .str z, .int j])) u (c + l0.length + 3) := by
        refine UrnAt.same st (UrnAt.put ?_)
        rw [hlen0]
        exact ho6
      have ht : upd (upd (upd (upd H3 u o4) u o5) u o6) t (.tup [.int way, .str z, .int j]) t = some (.tup [.int way, .str z, .int j]) := upd_same
      generalize upd (upd (upd (upd H3 u o4) u o5) u o6) t (.tup [.int way, .str z, .int j]) = H6 at sU6 hU6 ht
      refine ⟨t, _, rfl, SqT_of ht, rfl, _, _, rfl, _, _, rfl, _, _, rfl, rfl, ?_⟩
      dsimp only [gName]
      have hf6 := sU6 _ _ hf0u hf0
      have hp6 := Paired.tm rRow_tm (SU.tup hU1 sU6) hpf0
      refine ⟨_, rfl, f0, rfl, ⟨fs0, SqL_of hf6⟩, fun D8 nD8 => lc_fm (walk_list (K := K) (a := f0) (xs := fs0)) rRow_tm (fun i => l0[i]?.bind fun r => if decide (r.1 = z) = true then some r else none) (small100 (by omega)) nD8 (fun H' s' => SqL_of (s' _ _ hf6)) (fun i x H7 H7' hi s7 hy Qe Ne hq hne => ?_) (fun H7 s7 hL7 => ?_)⟩
      · obtain ⟨rfl, hx⟩ := hy
        obtain ⟨r, hr1, p, x1, x2, rfl, hpp, r1, r2⟩ := Paired.get hp6 hx
        obtain rfl : x1 = .str r.1 := r1
        have hp7 := s7 _ _ hpp
        refine ⟨rfl, _, rfl, _, _, _, _, rfl, rfl, SqT_of hp7, i0, _, rfl, rfl, _, rfl, ite2 (fun hd => ?_) (fun hd => ?_)⟩
        · have hd' : r.1 = z := V.str.inj (of_decide_eq_true hd)
          exact ⟨_, rfl, hq _ _ r (Same.refl _) (by rw [hr1]; exact if_pos (decide_eq_true hd')) ⟨p, _, _, rfl, hp7, rfl, r2⟩⟩
        · have hd' : ¬ r.1 = z := fun h => hd (decide_eq_true (congrArg V.str h))
          exact hne _ (Same.refl _) (by rw [hr1]; exact if_neg (fun h => hd' (of_decide_eq_true h)))
      · rw [hfl0, fm_opt, filter_fm] at hL7
        obtain ⟨D8', ds, e1, nD8', hD8, hpd⟩ := hL7
        cases e1
        have sU7 : SU u H H7 := (sU1.trans sU6).trans (SU.of s7)
        have hU7 := hU6.same s7
        have hf7 := s7 _ _ hf6
        have hp7 := Paired.tm rRow_tm (.of s7) hp6
        dsimp only [gName]
        generalize hStt : (fun (i : Int) (σ' : L2.St) (H' : Hp) => ∃ f fs l y9 y10, σ' = [some (.ref u), some (.ref a), some (.int (n : Int)), some (.ref f), some (.ref nm), some (.int way), some (.str z), some (.int j), some (.ref D8), y9, y10] ∧ Same H7 H' ∧ H f = none ∧ H' f = some (.lst fs) ∧ Paired (rRow H') fs l ∧ RowsOk n l ∧ (l = l0 ∨ way < i)) = Stt
        have s0 : Stt 0 [some (.ref u), some (.ref a), some (.int (n : Int)), some (.ref f0), some (.ref nm), some (.int way), some (.str z), some (.int j), some (.ref D8), none, none] H7 := by
          rw [← hStt]
          exact ⟨f0, fs0, l0, none, none, rfl, Same.refl _, nf0, hf7, hp7, hok0, .inl rfl⟩
        have b2 : Bd 2 (2 : Int) := by
          unfold Bd
          decide
        have b3 : Bd 2 (3 : Int) := by
          unfold Bd
          decide
        have bn : Bd 9 (n : Int) := bd9 hn
        have hdsl : ds.length = (rowsOf l0 z).length := PySem.Paired.length hpd
        have mod0 : ∀ x : Int, 0 ≤ x % (n : Int) ∧ x % (n : Int) < n := fun x => ⟨Int.emod_nonneg x (by omega), Int.emod_lt_of_pos x (by omega)⟩
        -- whether no arm has the name
        have fin : ∀ {D' : Ends} {i : Int} {H' : Hp} {p : Addr} {gs : List V} {l' : List Row} {y9 y10 : Option V}, (∀ σ' H', Stt i σ' H' → D'.nx σ' H') → Same H7 H' → H' p = none → Paired (rRow H') gs l' → RowsOk n l' → way < i →
            D'.nx [some (.ref u), some (.ref a), some (.int (n : Int)), some (.ref p), some (.ref nm), some (.int way), some (.str z), some (.int j), some (.ref D8), y9, y10] (upd H' p (.lst gs)) := fun {D' i H' p gs l' y9 y10} hD s np hg hok hw => by
          have sp := same_upd (o := .lst gs) np
          refine hD _ _ ?_
          rw [← hStt]
          refine ⟨p, gs, l', y9, y10, rfl, s.trans sp, SU.free (hu.mono (b := c + l0.length + 3) (by omega)) (hU7.same s) (sU7.trans (SU.of s)) np, upd_same, Paired.tm rRow_tm (.of sp) hg, hok, .inr hw⟩
        have nxt : ∀ {i : Int} {σ' : L2.St} {H' H'' : Hp}, Same H' H'' → Stt i σ' H' → Stt (i + 1) σ' H'' := fun {i σ' H' H''} s h => by
          rw [← hStt] at h ⊢
          obtain ⟨f, fs, l, y9, y10, rfl, s8, nf, hf, hpf, hokl, hor⟩ := h
          refine ⟨f, fs, l, y9, y10, rfl, s8.trans s, nf, s _ _ hf, Paired.tm rRow_tm (.of s) hpf, hokl, hor.imp id fun h => by omega⟩
        refine cut_sif (Stt 1) (fun D' hD => ?_) (fun σ1 H8 h1 => ?_)
        · have hL8 : rList rRow H7 (.ref D8) (rowsOf l0 z) := ⟨D8, ds, rfl, hD8, hpd⟩
          refine ⟨_, rfl, rfl, _, rfl, ite2 (fun hw => ?_) (fun _ => hD _ _ (nxt (Same.refl _) s0))⟩
          have hw' : way = 0 := V.int.inj (of_decide_eq_true hw)
          refine ⟨_, rfl, Nat.zero_le _, fun e8 ne8 => ?_⟩
          have se8 := same_upd (o := .lst []) ne8
          refine cmp_eq fa_rows (by decide) (dp_rows ((rList_mono rRow_tm.mono).go se8 hL8)) (dp_rows (l := []) ⟨e8, [], rfl, upd_same, .nil⟩) (fun r hr => hok0.okS r (List.mem_filter.mp hr).1) (fun _ h => nomatch h) ⟨_, rfl, ite2 (fun he => ?_) (fun _ => hD _ _ (nxt se8 s0))⟩
          have he' : rowsOf l0 z = [] := of_decide_eq_true he
          have hf8 := se8 _ _ hf7
          refine ⟨_, rfl, f0, fs0, rfl, .inl (SqL_of hf8), _, _, rfl, rfl, _, rfl, ite2 (fun hlt => ?_) (fun _ => hD _ _ (nxt se8 s0))⟩
          have hlt' : l0.length < 5 := by
            have := of_decide_eq_true hlt
            omega
          refine ⟨_, rfl, .inl ⟨_, rfl, _, _, rfl, rfl, (show (0 : Int) < 2 by decide), rfl, _, rfl, ite2 (fun _ => ?_) (fun _ => hD _ _ (nxt se8 s0))⟩⟩
          refine ⟨_, rfl, _, rfl, _, rfl, by show 2 ≤ sizeLine; decide, fun t1 nt1 => ?_⟩
          have st1 := same_upd (o := .tup [.str z, .int j]) nt1
          refine ⟨_, rfl, _, rfl, _, rfl, _, _, rfl, rfl, b2.divOk (by decide), _, _, rfl, rfl, .inl ⟨_, rfl, _, rfl, _, _, rfl, rfl, (show (0 : Int) < (n : Int) by omega), by show 2 ≤ sizeLine; decide, fun t2 nt2 => ?_⟩⟩
          have st2 := same_upd (o := .tup [.str z, .int ((j + (n : Int) / 2) % (n : Int))]) nt2
          refine ⟨by show 2 ≤ sizeLine; decide, fun e9 ne9 => ?_⟩
          have se9 := same_upd (o := .lst [.ref t1, .ref t2]) ne9
          have s9 := ((se8.trans st1).trans st2).trans se9
          refine ⟨f0, e9, fs0, _, rfl, rfl, s9 _ _ hf7, upd_same, by have := small100 (n := fs0.length + 2) (by omega); exact this, fun p np => ?_⟩
          refine fin (l' := l0 ++ [(z, j), (z, (j + (n : Int) / 2) % (n : Int))]) hD s9 np (Paired.app (Paired.tm rRow_tm (.of s9) hp7) (.cons ⟨t1, _, _, rfl, (st2.trans se9) _ _ upd_same, rfl, rfl⟩ (.cons ⟨t2, _, _, rfl, se9 _ _ upd_same, rfl, rfl⟩ .nil))) (hok0.add he' hzn (fun r hr => ?_) (by show 2 ≤ 3; omega) (by show l0.length + 2 ≤ 6; omega)) (by omega)
          rcases List.mem_cons.mp hr with e | e
          · rw [e]
            exact ⟨rfl, hj0, hj1⟩
          · rw [List.mem_singleton.mp e]
            exact ⟨rfl, mod0 _⟩
        refine cut_sif (Stt 2) (fun D' hD => ?_) (fun σ2 H9 h2 => ?_)
        · have h1' := h1
          rw [← hStt] at h1'
          obtain ⟨f, fs, l, y9, y10, rfl, s8, nf, hf, hpf, hokl, hor⟩ := h1'
          have hfl : fs.length = l.length := PySem.Paired.length hpf
          have hl6 := hokl.1
          refine ⟨_, rfl, rfl, _, rfl, ite2 (fun hw => ?_) (fun _ => hD _ _ (nxt (Same.refl _) h1))⟩
          have hw' : way = 1 := V.int.inj (of_decide_eq_true hw)
          have hll : l = l0 := hor.resolve_right (by omega)
          have hL8 : rList rRow H8 (.ref D8) (rowsOf l0 z) := (rList_mono rRow_tm.mono).go s8 ⟨D8, ds, rfl, hD8, hpd⟩
          refine ⟨_, rfl, Nat.zero_le _, fun e8 ne8 => ?_⟩
          have se8 := same_upd (o := .lst []) ne8
          refine cmp_eq fa_rows (by decide) (dp_rows ((rList_mono rRow_tm.mono).go se8 hL8)) (dp_rows (l := []) ⟨e8, [], rfl, upd_same, .nil⟩) (fun r hr => hok0.okS r (List.mem_filter.mp hr).1) (fun _ h => nomatch h) ⟨_, rfl, ite2 (fun he => ?_) (fun _ => hD _ _ (nxt se8 h1))⟩
          have he' : rowsOf l z = [] := by
            rw [hll]
            exact of_decide_eq_true he
          have hf8 := se8 _ _ hf
          refine ⟨_, rfl, f, fs, rfl, .inl (SqL_of hf8), _, _, rfl, rfl, _, rfl, ite2 (fun hlt => ?_) (fun _ => hD _ _ (nxt se8 h1))⟩
          have hlt' : l.length < 4 := by
            have := of_decide_eq_true hlt
            omega
          refine ⟨_, rfl, .inl ⟨_, rfl, _, _, rfl, rfl, (show (0 : Int) < 3 by decide), rfl, _, rfl, ite2 (fun _ => ?_) (fun _ => hD _ _ (nxt se8 h1))⟩⟩
          refine ⟨_, rfl, (3 : Int), rfl, by decide, by decide, fun D9 nD9 => lc_fm (walk_range (lo := 0) (n := 3)) rRow_tm (fun k : Nat => some (z, (j + (k : Int) * ((n : Int) / 3)) % (n : Int))) (by decide) nD9 (fun _ _ => trivial) (fun k x H9 H9' hk s9 hy Qe Ne hq hne => ?_) (fun H9 s9 hL9 => ?_)⟩
          · obtain ⟨rfl, hxv⟩ := hy
            obtain rfl : x = .int (k : Int) := by
              rw [hxv]
              show V.int (0 + (k : Int)) = V.int (k : Int)
              rw [Int.zero_add]
            have bk : Bd 2 (k : Int) := by
              unfold Bd
              show k < 4
              omega
            refine ⟨rfl, yes_go ⟨_, rfl, _, rfl, _, rfl, _, rfl, _, _, rfl, rfl, b3.divOk (by decide), _, _, rfl, rfl, bk.mulOk (bn.div (by decide)), _, _, rfl, rfl, .inl ⟨_, rfl, _, rfl, _, _, rfl, rfl, (show (0 : Int) < (n : Int) by omega), by show 2 ≤ sizeLine; decide, fun t1 nt1 => hq _ _ _ (same_upd nt1) rfl ⟨t1, _, _, rfl, upd_same, rfl, rfl⟩⟩⟩⟩
          · obtain ⟨D9', es, e1, nD9', hD9, hpe⟩ := hL9
            cases e1
            have hds : ∀ r ∈ (List.range 3).filterMap (fun k : Nat => some (z, (j + (k : Int) * ((n : Int) / 3)) % (n : Int))), r.1 = z ∧ 0 ≤ r.2 ∧ r.2 < (n : Int) := fun r hr => by
              obtain ⟨k, _, hk⟩ := List.mem_filterMap.mp hr
              cases hk
              exact ⟨rfl, mod0 _⟩
            have h3 : ((List.range 3).filterMap (fun k : Nat => some (z, (j + (k : Int) * ((n : Int) / 3)) % (n : Int)))).length = 3 := rfl
            generalize (List.range 3).filterMap (fun k : Nat => some (z, (j + (k : Int) * ((n : Int) / 3)) % (n : Int))) = dsn at hpe hds h3
            have hel : es.length = 3 := by rw [PySem.Paired.length hpe, h3]
            refine ⟨f, D9, fs, es, rfl, rfl, s9 _ _ hf8, hD9, by have := small100 (n := fs.length + es.length) (by omega); exact this, fun p np => ?_⟩
            exact fin (l' := l ++ dsn) hD ((s8.trans se8).trans s9) np (Paired.app (Paired.tm rRow_tm (.of (se8.trans s9)) hpf) hpe) (hokl.add he' hzn hds (by omega) (by omega)) (by omega)
        refine cut_sif (Stt 3) (fun D' hD => ?_) (fun σ3 H10 h3 => ?_)
        · have h2' := h2
          rw [← hStt] at h2'
          obtain ⟨f, fs, l, y9, y10, rfl, s8, nf, hf, hpf, hokl, hor⟩ := h2'
          have hfl : fs.length = l.length := PySem.Paired.length hpf
          have hl6 := hokl.1
          refine ⟨_, rfl, rfl, _, rfl, ite2 (fun hw => ?_) (fun _ => hD _ _ (nxt (Same.refl _) h2))⟩
          have hw' : way = 2 := V.int.inj (of_decide_eq_true hw)
          have hll : l = l0 := hor.resolve_right (by omega)
          have hD8' := s8 _ _ hD8
          refine ⟨_, rfl, D8, ds, rfl, .inl (SqL_of hD8'), rfl, _, rfl, ite2 (fun h1 => ?_) (fun _ => hD _ _ (nxt (Same.refl _) h2))⟩
          have h1' : (rowsOf l z).length = 1 := by
            have : ((ds.length : Nat) : Int) = 1 := V.int.inj (of_decide_eq_true h1)
            rw [hll]
            omega
          refine ⟨_, rfl, f, fs, rfl, .inl (SqL_of hf), _, _, rfl, rfl, _, rfl, ite2 (fun hlt => ?_) (fun _ => hD _ _ (nxt (Same.refl _) h2))⟩
          have hlt' : l.length < 6 := by
            have := of_decide_eq_true hlt
            omega
          refine ⟨_, rfl, .inl ⟨_, rfl, _, _, rfl, rfl, (show (0 : Int) < 6 by decide), rfl, _, rfl, ite2 (fun _ => ?_) (fun _ => hD _ _ (nxt (Same.refl _) h2))⟩⟩
          refine ⟨_, rfl, f, rfl, ⟨fs, SqL_of hf⟩, fun D9 nD9 => lc_fm (walk_list (K := K) (a := f) (xs := fs)) rRow_tm (fun i => l[i]?.bind fun r => if decide (¬ r.1 = z) = true then some r else none) (small100 (by omega)) nD9 (fun H' s' => SqL_of (s' _ _ hf)) (fun i x H10 H10' hi s10 hy Qe Ne hq hne => ?_) (fun H10 s10 hL10 => ?_)⟩
          · obtain ⟨rfl, hx⟩ := hy
            obtain ⟨r, hr1, p, x1, x2, rfl, hpp, r1, r2⟩ := Paired.get hpf hx
            obtain rfl : x1 = .str r.1 := r1
            have hp10 := s10 _ _ hpp
            refine ⟨rfl, _, rfl, _, _, _, _, rfl, rfl, SqT_of hp10, i0, _, rfl, rfl, _, rfl, ite2 (fun hd => ?_) (fun hd => ?_)⟩
            · have hd' : ¬ r.1 = z := fun h => by
                rw [h] at hd
                simp at hd
              exact ⟨_, rfl, hq _ _ r (Same.refl _) (by rw [hr1]; exact if_pos (decide_eq_true hd')) ⟨p, _, _, rfl, hp10, rfl, r2⟩⟩
            · have hd' : r.1 = z := by
                by_cases h : r.1 = z
                · exact h
                · refine absurd ?_ hd
                  rw [decide_eq_false fun h2 => h (V.str.inj h2)]
                  rfl
              exact hne _ (Same.refl _) (by rw [hr1]; exact if_neg (fun h => (of_decide_eq_true h) hd'))
          · rw [hfl, fm_opt, filter_fm] at hL10
            obtain ⟨D9', gs, e1, nD9', hD9, hpg⟩ := hL10
            cases e1
            have hgl : gs.length = (l.filter fun r => decide (¬ r.1 = z)).length := PySem.Paired.length hpg
            have hgl2 := less_len l z
            dsimp only [gName]
            refine ⟨_, rfl, _, rfl, by show 2 ≤ sizeLine; decide, fun t9 nt9 => ?_⟩
            have st9 := same_upd (o := .tup [V.int (-1), .int 1]) nt9
            obtain ⟨r0, hr0⟩ : ∃ r, (rowsOf l0 z)[0]? = some r := ⟨_, List.getElem?_eq_getElem (by rw [← hll]; omega)⟩
            obtain ⟨v0, hv0, p0, x1, x2, rfl, hp0, r1, r2⟩ := Paired.getR hpd hr0
            obtain rfl : x2 = .int r0.2 := r2
            have hr0m := hok0.2.1 r0 (List.mem_filter.mp (List.mem_of_getElem? hr0)).1
            have b6 : Bd 3 (6 : Int) := by
              unfold Bd
              decide
            have s10t := s10.trans st9
            refine ⟨t9, rfl, ⟨_, SqT_of upd_same⟩, fun D10 nD10 => lc_fm (walk_tup (K := K) (a := t9) (xs := [V.int (-1), .int 1])) rRow_tm (fun k => [(-1 : Int), 1][k]?.map fun y => (z, (r0.2 + y * ((n : Int) / 6)) % (n : Int))) (by decide) nD10 (fun H' s' => SqT_of (s' _ _ upd_same)) (fun k x H11 H11' hk s11 hy Qe Ne hq hne => ?_) (fun H11 s11 hL11 => ?_)⟩
            · obtain ⟨rfl, hx⟩ := hy
              have hx2 : ([(-1 : Int), 1].map V.int)[k]? = some x := hx
              rw [List.getElem?_map] at hx2
              obtain ⟨y, hy1, rfl⟩ := Option.map_eq_some_iff.mp hx2
              have by1 : Bd 1 y := by
                have hall : ∀ y ∈ [(-1 : Int), 1], y.natAbs < 2 := by decide
                exact hall y (List.mem_of_getElem? hy1)
              have hD11 := s11 _ _ (s10t _ _ hD8')
              have hp11 := s11 _ _ (s10t _ _ (s8 _ _ hp0))
              refine ⟨rfl, yes_go ⟨_, rfl, _, rfl, D8, ds, _, _, rfl, rfl, SqL_of hD11, atI_nat (j := 0) hv0, p0, _, _, _, rfl, rfl, SqT_of hp11, i1, _, rfl, _, rfl, _, _, rfl, rfl, b6.divOk (by decide), _, _, rfl, rfl, by1.mulOk (bn.div (by decide)), _, _, rfl, rfl, .inl ⟨_, rfl, _, rfl, _, _, rfl, rfl, (show (0 : Int) < (n : Int) by omega), by show 2 ≤ sizeLine; decide, fun t1 nt1 => hq _ _ (z, (r0.2 + y * ((n : Int) / 6)) % (n : Int)) (same_upd nt1) (by rw [hy1]; rfl) ⟨t1, _, _, rfl, upd_same, rfl, rfl⟩⟩⟩⟩
            · obtain ⟨D10', es, e1, nD10', hD10, hpe⟩ := hL11
              cases e1
              have hds : ∀ r ∈ (List.range [V.int (-1), .int 1].length).filterMap (fun k => [(-1 : Int), 1][k]?.map fun y => (z, (r0.2 + y * ((n : Int) / 6)) % (n : Int))), r.1 = z ∧ 0 ≤ r.2 ∧ r.2 < (n : Int) := fun r hr => by
                obtain ⟨k, _, hk⟩ := List.mem_filterMap.mp hr
                obtain ⟨y, _, rfl⟩ := Option.map_eq_some_iff.mp hk
                exact ⟨rfl, mod0 _⟩
              have h3 : ((List.range [V.int (-1), .int 1].length).filterMap (fun k => [(-1 : Int), 1][k]?.map fun y => (z, (r0.2 + y * ((n : Int) / 6)) % (n : Int)))).length = 2 := rfl
              generalize (List.range [V.int (-1), .int 1].length).filterMap (fun k => [(-1 : Int), 1][k]?.map fun y => (z, (r0.2 + y * ((n : Int) / 6)) % (n : Int))) = dsn at hpe hds h3
              have hel : es.length = 2 := by rw [PySem.Paired.length hpe, h3]
              have s12 := s10t.trans s11
              refine ⟨D9, D10, gs, es, rfl, rfl, s11 _ _ (st9 _ _ hD9), hD10, by have := small100 (n := gs.length + es.length) (by omega); exact this, fun p np => ?_⟩
              exact fin (l' := l.filter (fun r => decide (¬ r.1 = z)) ++ dsn) hD (s8.trans s12) np (Paired.app (Paired.tm rRow_tm (.of (st9.trans s11)) hpg) hpe) ((hokl.sub List.filter_sublist).add rowsOf_less hzn hds (by omega) (by omega)) (by omega)
        refine cut_sif (Stt 4) (fun D' hD => ?_) (fun σ4 H11 h4 => ?_)
        · have h3' := h3
          rw [← hStt] at h3'
          obtain ⟨f, fs, l, y9, y10, rfl, s8, nf, hf, hpf, hokl, hor⟩ := h3'
          refine ⟨_, rfl, rfl, _, rfl, ite2 (fun hw => ?_) (fun _ => hD _ _ (nxt (Same.refl _) h3))⟩
          have hw' : way = 3 := V.int.inj (of_decide_eq_true hw)
          refine ⟨_, rfl, Nat.zero_le _, fun e8 ne8 => ?_⟩
          have se8 := same_upd (o := .lst []) ne8
          have hf8 := se8 _ _ hf
          have hp8 := Paired.tm rRow_tm (.of se8) hpf
          refine cmp_ne fa_rows (by decide) (dp_rows ⟨f, fs, rfl, hf8, hp8⟩) (dp_rows (l := []) ⟨e8, [], rfl, upd_same, .nil⟩) hokl.okS (fun _ h => nomatch h) ⟨_, rfl, ite2 (fun he => ?_) (fun _ => hD _ _ (nxt se8 h3))⟩
          refine ⟨_, rfl, _, rfl, f, fs, rfl, SqL_of hf8, fun p np => ?_⟩
          rw [cut_drop]
          exact fin (l' := l.drop 1) hD (s8.trans se8) np (Paired.drop1 hp8) (hokl.sub (List.drop_sublist 1 l)) (by omega)
        refine cut_sif (Stt 5) (fun D' hD => ?_) (fun σ5 H12 h5 => ?_)
        · have h4' := h4
          rw [← hStt] at h4'
          obtain ⟨f, fs, l, y9, y10, rfl, s8, nf, hf, hpf, hokl, hor⟩ := h4'
          have hl6 := hokl.1
          refine ⟨_, rfl, rfl, _, rfl, ite2 (fun hw => ?_) (fun _ => hD _ _ (nxt (Same.refl _) h4))⟩
          have hw' : way = 4 := V.int.inj (of_decide_eq_true hw)
          refine ⟨_, rfl, Nat.zero_le _, fun e8 ne8 => ?_⟩
          have se8 := same_upd (o := .lst []) ne8
          have hf8 := se8 _ _ hf
          have hp8 := Paired.tm rRow_tm (.of se8) hpf
          refine cmp_ne fa_rows (by decide) (dp_rows ⟨f, fs, rfl, hf8, hp8⟩) (dp_rows (l := []) ⟨e8, [], rfl, upd_same, .nil⟩) hokl.okS (fun _ h => nomatch h) ⟨_, rfl, ite2 (fun he => ?_) (fun _ => hD _ _ (nxt se8 h4))⟩
          obtain ⟨r0, tl, rfl⟩ : ∃ r0 tl, l = r0 :: tl := by
            cases l with
            | nil => exact absurd he (by decide)
            | cons r0 tl => exact ⟨r0, tl, rfl⟩
          cases hp8 with
          | @cons v0 _ vs0 _ rv0 rt0 =>
            obtain ⟨p0, x1, x2, rfl, hp0, r1, r2⟩ := rv0
            obtain rfl : x1 = .str r0.1 := r1
            refine ⟨_, rfl, f, _, _, _, rfl, rfl, SqL_of hf8, atI_nat (j := 0) rfl, p0, _, _, _, rfl, rfl, SqT_of hp0, i0, _, rfl, by show 2 ≤ sizeLine; decide, fun t1 nt1 => ?_⟩
            have st1 := same_upd (o := .tup [.str r0.1, .int j]) nt1
            refine ⟨by show 1 ≤ sizeLine; decide, fun e9 ne9 => ?_⟩
            have se9 := same_upd (o := .lst [.ref t1]) ne9
            refine ⟨_, rfl, _, rfl, f, _, rfl, SqL_of (se9 _ _ (st1 _ _ hf8)), fun p9 np9 => ?_⟩
            rw [cut_drop]
            have sp9 := same_upd (o := .lst (List.drop 1 (V.ref p0 :: vs0))) np9
            have hvl : vs0.length = tl.length := PySem.Paired.length rt0
            have hll : (r0 :: tl).length = tl.length + 1 := rfl
            refine ⟨e9, p9, _, _, rfl, rfl, sp9 _ _ upd_same, upd_same, ?_, fun p np => ?_⟩
            · show 1 + vs0.length ≤ sizeLine
              have := small100 (n := 1 + vs0.length) (by omega)
              exact this
            · refine fin (l' := (r0.1, j) :: tl) hD ((((s8.trans se8).trans st1).trans se9).trans sp9) np (.cons ⟨t1, _, _, rfl, sp9 _ _ (se9 _ _ upd_same), rfl, rfl⟩ (Paired.tm rRow_tm (.of ((st1.trans se9).trans sp9)) rt0)) (hokl.swap hj0 hj1) (by omega)
        rw [← hStt] at h5
        obtain ⟨f, fs, l, y9, y10, rfl, s8, nf, hf, hpf, hokl, _⟩ := h5
        exact ⟨_, rfl, q _ _ l (sU7.trans (SU.of s8)) ((hU7.same s8).mono (by omega)) ⟨f, fs, rfl, nf, hf, hpf⟩ hokl⟩
end
end K31

set_option Elab.async false
set_option linter.all false
set_option maxRecDepth 100000
set_option maxHeartbeats 1000000
namespace K31
open PySem PySem.Spec PyProof.Rows L2
/-! ### a call by names alone -/
def swp {α : Type} : List α → List α → List α
  | [], [a, b] => [b, a]
  | _, _ => []
theorem swp_len {α : Type} {us ws : List α} (h : (swp us ws).length = 2) : ∃ a b, us = [] ∧ ws = [a, b] := by
  match us, ws, h with
  | [], [a, b], _ => exact ⟨a, b, rfl, rfl⟩
theorem swp_rel {vs zs : List V} {us ws : List Value} (r : Vals vs us) (t : Vals zs ws) : Vals (swp vs zs) (swp us ws) := by
  cases r with
  | cons _ _ => exact .nil
  | nil =>
    cases t with
    | nil => exact .nil
    | cons a t =>
      cases t with
      | nil => exact .nil
      | cons b t =>
        cases t with
        | nil => exact .cons b (.cons a .nil)
        | cons _ _ => exact .nil
theorem pe_dfk {X : Cx} {j k : Nat} {x : Str} {st : Stmt} {sp : Sp} {tk : TA} {p pos : Pos} {kws : List Keyword} (D : Dg X.prog X.w X.K X.mg X.base j x st ["place", "turn"] sp)
    (hb : ∀ (kV doc pm : Value) (an : Option Addr) (cdv ct w1 w2 : Value), bindArgs (PySem.W.fnOf x x (defArgs st) (defBody st) (defScope st) .none kV doc pm an cdv ct) ⟨[], [("turn", w1), ("place", w2)]⟩ = pure [(("place" : Str), w2), (("turn" : Str), w1)])
    (hr : Room k X.A) (hj : j ≤ k) (hg : Gl X x) (hkw : PK X kws tk)
    (hall : (backToKw pos (keywordEach kws X.env)).all (·.1.isSome) = true := by rfl) (hks : (backToKw pos (keywordEach kws X.env)).filterMap (·.1) = [("turn" : Str), "place"] := by rfl)
    (hdb : (x == ("__debug__" : Str)) = false := by decide)
    (hpl : ((backTo pos (starEach [] X.env)).any (·.1) || (backToKw pos (keywordEach kws X.env)).any (·.1.isNone)) = false := by rfl) :
    PE X (.Call (.Name x p) [] kws pos) (tCallK sp swp E0 tNil tk) := by
  obtain ⟨f, fd, g, F, O⟩ := D
  refine ⟨fun pins s σ H Q I h => ?_⟩
  refine wpAny_Call_Name_kw (ld_glob I hg g ?_ hdb)
  refine PySem.W.callWith_KW0 (h₀ := X.base) I.ok.mod.kin F.kp hall (thn (hkw.run pos pins s σ H _ I h) fun ws s2 ⟨zs, H2, I2, rz, q2⟩ => ⟨I2.kIn, ?_⟩) hpl
  rw [hks]
  refine run_fnk (us := []) (vs := []) O (hr.mono hj) ⟨fun s us ws _ hl => ?_, swp_rel⟩ pass0 I2 .nil rz q2
  obtain ⟨a, b, rfl, rfl⟩ := swp_len hl
  obtain ⟨oc, od, dV, kV, doc, pm, an, cdv, ct, osl, rfl, lk, hcd, hD, hK⟩ := F.ex
  rcases hD with ⟨_, rfl⟩ | ⟨e, _⟩
  · exact .of_eq (hb kV doc pm an cdv ct a b)
  · exact absurd rfl e
theorem kb_turned (kV doc pm : Value) (an : Option Addr) (cdv ct w1 w2 : Value) : bindArgs (PySem.W.fnOf "turned" "turned" (defArgs s_turned) (defBody s_turned) (defScope s_turned) .none kV doc pm an cdv ct) ⟨[], [("turn", w1), ("place", w2)]⟩ = pure [(("place" : Str), w2), (("turn" : Str), w1)] := by rfl
theorem kb_mirrored (kV doc pm : Value) (an : Option Addr) (cdv ct w1 w2 : Value) : bindArgs (PySem.W.fnOf "mirrored" "mirrored" (defArgs s_mirrored) (defBody s_mirrored) (defScope s_mirrored) .none kV doc pm an cdv ct) ⟨[], [("turn", w1), ("place", w2)]⟩ = pure [(("place" : Str), w2), (("turn" : Str), w1)] := by rfl
/-! ### laws of the group -/
def OkPl (p : Pl) : Prop := IsPl p ∧ PlB 1200 p
def OkT (r : Turn) : Prop := IsTurn r ∧ TOk 350 r
structure GroupOk (p : Pl) (r s : Turn) : Prop where
  kp : OkPl p
  kr : OkT r
  ks : OkT s
  tot : IsTurn (lawSum r s)
  mn : IsTurn (lawMinus r)
  les : IsTurn (lawSum s (lawMinus r))
  t1 : OkPl (turnedIn p r)
  m1 : OkPl (mirroredIn p r)
  m2 : OkPl (mirroredIn p s)
  e1 : turnedIn (turnedIn p r) s = turnedIn p (lawSum r s)
  e2 : turnedIn (turnedIn p r) (lawMinus r) = p
  e3 : mirroredIn (mirroredIn p r) r = p
  e4 : mirroredIn (mirroredIn p r) s = turnedIn p (lawSum s (lawMinus r))
  e5 : mirroredIn (turnedIn p r) s = turnedIn (mirroredIn p s) (lawMinus r)
def okP (l : Pl) : Prop := ∀ x ∈ l, okS x.1 ∧ ∀ y ∈ x.2, True ∧ True
theorem okP_of {p : Pl} (h : IsPl p) : okP p := fun x hx => ⟨okS_name (h.2.1 x hx).1, fun _ _ => ⟨trivial, trivial⟩⟩
theorem okP_map {p : Pl} {g : Str × List Turn → List Turn} (h : okP p) : okP (p.map fun x => (x.1, g x)) := fun x hx => by
  obtain ⟨y, hy, rfl⟩ := List.mem_map.mp hx
  exact ⟨(h y hy).1, fun _ _ => ⟨trivial, trivial⟩⟩
theorem okP_tu {p : Pl} {r : Turn} (h : okP p) : okP (turnedIn p r) := okP_map h
theorem okP_mi {p : Pl} {r : Turn} (h : okP p) : okP (mirroredIn p r) := okP_map h
theorem okP_each {p : Pl} {w : Int} {r : Turn} (h : okP p) : okP (eachIn p w r) := okP_map h
theorem OkT.w {r : Turn} (h : OkT r) : TOk 1200 r := h.2.mono (by decide)
section
variable {P : Program} {w : World} {K : PySem.W.Frag} {mg : Str → Option Value} {base : Heap}
def sp_group : Sp := fun vs H Q _ => ∃ v1 v2 v3 p r s, vs = [v1, v2, v3] ∧ rPlace H v1 p ∧ rTurn H v2 r ∧ rTurn H v3 s ∧ GroupOk p r s ∧ ∀ H', Same H H' → Q (.bl true) H'
theorem df__law_group_right (T : Txt K mg) : Df P w K mg base 10 "_law_group_right" ["_law_where", "_law_one", "_law_two"] sp_group := by
  have D__law_sum := df__law_sum (P := P) (w := w) (base := base) T
  have D__law_minus := df__law_minus (P := P) (w := w) (base := base) T
  have D_turned := df_turned (P := P) (w := w) (base := base) T
  have D_mirrored := df_mirrored (P := P) (w := w) (base := base) T
  refine Df.mk T.a__law_group_right sc__law_group_right (fun _ _ _ _ _ _ us hl => match us, hl with | [_, _, _], _ => rfl) (fun vs H Q E h => ?_) (fun f cdv A outer s H vs Q E hr h => ?_)
  · obtain ⟨_, _, _, _, _, _, rfl, _⟩ := h
    rfl
  · obtain ⟨v1, v2, v3, p, r, t, rfl, h1, h2, h3, G, q⟩ := h
    refine ⟨_, (pss_cons (ps_par (i := 3) (j := 4) (by rfl) sc__law_group_right.nd rfl rfl (by decide) rfl rfl (pa_cons (pe_df D__law_sum hr (by decide) (by rfl) (pa_cons (pv 1) (pa_cons (pv 2) pa_nil))) (pa_cons (pe_df D__law_sum hr (by decide) (by rfl) (pa_cons (pv 2) (pa_cons (pe_df D__law_minus hr (by decide) (by rfl) (pa_cons (pv 1) pa_nil)) pa_nil))) pa_nil)) (by rfl))
  (pss_cons (ps_if (PW.pt (pw_or (pt_cmpR (op_neD hr.units) (pe_df D_turned hr (by decide) (by rfl) (pa_cons (pe_df D_turned hr (by decide) (by rfl) (pa_cons (pv 0) (pa_cons (pv 1) pa_nil))) (pa_cons (pv 2) pa_nil))) (pe_df D_turned hr (by decide) (by rfl) (pa_cons (pv 0) (pa_cons (pv 3) pa_nil))) (nomark _)) (pw_or1 (pt_cmpR (op_neD hr.units) (pe_df D_turned hr (by decide) (by rfl) (pa_cons (pe_df D_turned hr (by decide) (by rfl) (pa_cons (pv 0) (pa_cons (pv 1) pa_nil))) (pa_cons (pe_df D__law_minus hr (by decide) (by rfl) (pa_cons (pv 1) pa_nil)) pa_nil))) (pv 0) (nomark _))))) (pss_one (ps_ret pe_bl)) pss_nil)
  (pss_cons (ps_if (PW.pt (pw_or (pt_cmpR (op_neD hr.units) (pe_df D_mirrored hr (by decide) (by rfl) (pa_cons (pe_df D_mirrored hr (by decide) (by rfl) (pa_cons (pv 0) (pa_cons (pv 1) pa_nil))) (pa_cons (pv 1) pa_nil))) (pv 0) (nomark _)) (pw_or1 (pt_cmpR (op_neD hr.units) (pe_df D_mirrored hr (by decide) (by rfl) (pa_cons (pe_df D_mirrored hr (by decide) (by rfl) (pa_cons (pv 0) (pa_cons (pv 1) pa_nil))) (pa_cons (pv 2) pa_nil))) (pe_df D_turned hr (by decide) (by rfl) (pa_cons (pv 0) (pa_cons (pv 4) pa_nil))) (nomark _))))) (pss_one (ps_ret pe_bl)) pss_nil)
  (pss_one (ps_ret (pe_cmpR (op_eqD hr.units) (pe_df D_mirrored hr (by decide) (by rfl) (pa_cons (pe_df D_turned hr (by decide) (by rfl) (pa_cons (pv 0) (pa_cons (pv 1) pa_nil))) (pa_cons (pv 2) pa_nil))) (pe_df D_turned hr (by decide) (by rfl) (pa_cons (pe_df D_mirrored hr (by decide) (by rfl) (pa_cons (pv 0) (pa_cons (pv 2) pa_nil))) (pa_cons (pe_df D__law_minus hr (by decide) (by rfl) (pa_cons (pv 1) pa_nil)) pa_nil))) (nomark _))))))), ?_⟩
    have bt : TOk 1200 (lawSum r t) := (lawSum_ok G.kr.2 G.ks.2).mono (by decide)
    have bm : TOk 350 (lawMinus r) := lawMinus_ok G.kr.2
    have bl : TOk 1200 (lawSum t (lawMinus r)) := (lawSum_ok G.ks.2 bm).mono (by decide)
    have mP := rPlace_mono
    have mT := rTurn_mono
    have op := okP_of G.kp.1
    have ot := okP_of G.t1.1
    have om := okP_of G.m1.1
    have om2 := okP_of G.m2.1
    refine ⟨_, rfl, _, rfl, _, _, r, t, rfl, h2, h3, G.kr.2, G.ks.2, fun H1 vt s1 rt => ?_⟩
    refine ⟨_, rfl, _, rfl, _, r, rfl, mT.go s1 h2, G.kr.2.mono (by decide), fun H2 vm s2 rm => ?_⟩
    refine ⟨_, _, t, lawMinus r, rfl, mT.go (s1.trans s2) h3, rm, G.ks.2, bm, fun H3 vl s3 rl => ⟨_, _, rfl, ?_⟩⟩
    have a3 := (s1.trans s2).trans s3
    have p3 := mP.go a3 h1
    have r3 := mT.go a3 h2
    have t3 := mT.go a3 h3
    have tt3 := mT.go (s2.trans s3) rt
    refine ⟨_, rfl, _, rfl, _, _, p, r, rfl, p3, r3, G.kp.1, G.kp.2, G.kr.1, G.kr.w, fun H4 w4 s4 N4 => ?_⟩
    refine ⟨_, rfl, _, _, turnedIn p r, t, rfl, N4.place, mT.go s4 t3, G.t1.1, G.t1.2, G.ks.1, G.ks.w, fun H5 w5 s5 N5 => ?_⟩
    have a5 := s4.trans s5
    refine ⟨_, rfl, _, rfl, _, _, p, lawSum r t, rfl, mP.go a5 p3, mT.go a5 tt3, G.kp.1, G.kp.2, G.tot, bt, fun H6 w6 s6 N6 => ?_⟩
    refine cmp_ne fa_pl (by decide) (dp_pl (mP.go s6 N5.place)) (dp_pl N6.place) (okP_tu ot) (okP_tu op) ⟨_, rfl, ?_⟩
    rw [decide_eq_true G.e1]
    refine iteF ?_
    have a6 := a5.trans s6
    refine ⟨_, rfl, _, rfl, _, _, p, r, rfl, mP.go a6 p3, mT.go a6 r3, G.kp.1, G.kp.2, G.kr.1, G.kr.w, fun H7 w7 s7 N7 => ?_⟩
    have a7 := a6.trans s7
    refine ⟨_, rfl, _, r, rfl, mT.go a7 r3, G.kr.2.mono (by decide), fun H8 w8 s8 N8 => ?_⟩
    have a8 := a7.trans s8
    refine ⟨_, _, turnedIn p r, lawMinus r, rfl, mP.go s8 N7.place, N8, G.t1.1, G.t1.2, G.mn, bm.mono (by decide), fun H9 w9 s9 N9 => ?_⟩
    have a9 := a8.trans s9
    refine ⟨_, rfl, cmp_ne fa_pl (by decide) (dp_pl N9.place) (dp_pl (mP.go a9 p3)) (okP_tu ot) op ⟨_, rfl, ?_⟩⟩
    rw [decide_eq_true G.e2]
    refine iteF ?_
    refine ⟨_, rfl, _, rfl, _, _, p, r, rfl, mP.go a9 p3, mT.go a9 r3, G.kp.1, G.kp.2, G.kr.1, G.kr.w, fun H10 w10 s10 N10 => ?_⟩
    have a10 := a9.trans s10
    refine ⟨_, rfl, _, _, mirroredIn p r, r, rfl, N10.place, mT.go a10 r3, G.m1.1, G.m1.2, G.kr.1, G.kr.w, fun H11 w11 s11 N11 => ?_⟩
    have a11 := a10.trans s11
    refine ⟨_, rfl, cmp_ne fa_pl (by decide) (dp_pl N11.place) (dp_pl (mP.go a11 p3)) (okP_mi om) op ⟨_, rfl, ?_⟩⟩
    rw [decide_eq_true G.e3]
    refine iteF ?_
    refine ⟨_, rfl, _, rfl, _, _, p, r, rfl, mP.go a11 p3, mT.go a11 r3, G.kp.1, G.kp.2, G.kr.1, G.kr.w, fun H12 w12 s12 N12 => ?_⟩
    have a12 := a11.trans s12
    refine ⟨_, rfl, _, _, mirroredIn p r, t, rfl, N12.place, mT.go a12 t3, G.m1.1, G.m1.2, G.ks.1, G.ks.w, fun H13 w13 s13 N13 => ?_⟩
    have a13 := a12.trans s13
    refine ⟨_, rfl, _, rfl, _, _, p, lawSum t (lawMinus r), rfl, mP.go a13 p3, mT.go a13 rl, G.kp.1, G.kp.2, G.les, bl, fun H14 w14 s14 N14 => ?_⟩
    have a14 := a13.trans s14
    refine cmp_ne fa_pl (by decide) (dp_pl (mP.go s14 N13.place)) (dp_pl N14.place) (okP_mi om) (okP_tu op) ⟨_, rfl, ?_⟩
    rw [decide_eq_true G.e4]
    refine iteF ?_
    refine ⟨_, rfl, _, rfl, _, _, p, r, rfl, mP.go a14 p3, mT.go a14 r3, G.kp.1, G.kp.2, G.kr.1, G.kr.w, fun H15 w15 s15 N15 => ?_⟩
    have a15 := a14.trans s15
    refine ⟨_, rfl, _, _, turnedIn p r, t, rfl, N15.place, mT.go a15 t3, G.t1.1, G.t1.2, G.ks.1, G.ks.w, fun H16 w16 s16 N16 => ?_⟩
    have a16 := a15.trans s16
    refine ⟨_, rfl, _, rfl, _, _, p, t, rfl, mP.go a16 p3, mT.go a16 t3, G.kp.1, G.kp.2, G.ks.1, G.ks.w, fun H17 w17 s17 N17 => ?_⟩
    have a17 := a16.trans s17
    refine ⟨_, rfl, _, r, rfl, mT.go a17 r3, G.kr.2.mono (by decide), fun H18 w18 s18 N18 => ?_⟩
    have a18 := a17.trans s18
    refine ⟨_, _, mirroredIn p t, lawMinus r, rfl, mP.go s18 N17.place, N18, G.m2.1, G.m2.2, G.mn, bm.mono (by decide), fun H19 w19 s19 N19 => ?_⟩
    have a19 := a18.trans s19
    refine cmp_eq fa_pl (by decide) (dp_pl (mP.go ((s17.trans s18).trans s19) N16.place)) (dp_pl N19.place) (okP_mi ot) (okP_tu om2) ?_
    rw [decide_eq_true G.e5]
    exact q _ (a3.trans a19)
structure DotsOk (p o : Pl) (al : Bool) (r : Turn) (iz : Bool) : Prop where
  kp : OkPl p
  ko : OkPl o
  kr : OkT r
  tp : IsPl (turnedIn p r) ∧ WrOk (turnedIn p r)
  tO : IsPl (turnedIn o r) ∧ WrOk (turnedIn o r)
  mp : IsPl (mirroredIn p r) ∧ WrOk (mirroredIn p r)
  mO : IsPl (mirroredIn o r) ∧ WrOk (mirroredIn o r)
  wp : WrOk p
  e1 : decide (writtenIn (turnedIn p r) = writtenIn (turnedIn o r)) = al
  e2 : decide (writtenIn (mirroredIn p r) = writtenIn (mirroredIn o r)) = al
  e3 : decide (writtenIn p = writtenIn (turnedIn p r)) = (iz || decide (r = ((0 : Int), (1 : Int))))
def sp_dots : Sp := fun vs H Q _ => ∃ v1 v2 v4 p o r, ∃ al iz : Bool, vs = [v1, v2, .bl al, v4, .bl iz] ∧ rPlace H v1 p ∧ rPlace H v2 o ∧ rTurn H v4 r ∧ DotsOk p o al r iz ∧ ∀ H', Same H H' → Q (.bl true) H'
theorem df__law_dots_right (T : Txt K mg) : Df P w K mg base 10 "_law_dots_right" ["_law_where", "_law_other", "_law_alike", "_law_one", "_law_is_zero"] sp_dots := by
  have D__law_says := df__law_says (P := P) (w := w) (base := base) T
  have D_same := df_same (P := P) (w := w) (base := base) T
  have D_turned := df_turned (P := P) (w := w) (base := base) T
  have D_mirrored := df_mirrored (P := P) (w := w) (base := base) T
  refine Df.mk T.a__law_dots_right sc__law_dots_right (fun _ _ _ _ _ _ us hl => match us, hl with | [_, _, _, _, _], _ => rfl) (fun vs H Q E h => ?_) (fun f cdv A outer s H vs Q E hr h => ?_)
  · obtain ⟨_, _, _, _, _, _, _, _, rfl, _⟩ := h
    rfl
  · obtain ⟨v1, v2, v4, p, o, r, al, iz, rfl, h1, h2, h4, G, q⟩ := h
    refine ⟨_, (pss_cons (ps_if (pt_not (pt_val (pe_df D__law_says hr (by decide) (by rfl) (pa_cons (pe_df D_same hr (by decide) (by rfl) (pa_cons (pe_df D_turned hr (by decide) (by rfl) (pa_cons (pv 0) (pa_cons (pv 3) pa_nil))) (pa_cons (pe_df D_turned hr (by decide) (by rfl) (pa_cons (pv 1) (pa_cons (pv 3) pa_nil))) pa_nil))) (pa_cons (pv 2) pa_nil))))) (pss_one (ps_ret pe_bl)) pss_nil)
  (pss_cons (ps_if (pt_not (pt_val (pe_df D__law_says hr (by decide) (by rfl) (pa_cons (pe_df D_same hr (by decide) (by rfl) (pa_cons (pe_df D_mirrored hr (by decide) (by rfl) (pa_cons (pv 0) (pa_cons (pv 3) pa_nil))) (pa_cons (pe_df D_mirrored hr (by decide) (by rfl) (pa_cons (pv 1) (pa_cons (pv 3) pa_nil))) pa_nil))) (pa_cons (pv 2) pa_nil))))) (pss_one (ps_ret pe_bl)) pss_nil)
  (pss_one (ps_ret (pe_df D__law_says hr (by decide) (by rfl) (pa_cons (pe_df D_same hr (by decide) (by rfl) (pa_cons (pv 0) (pa_cons (pe_df D_turned hr (by decide) (by rfl) (pa_cons (pv 0) (pa_cons (pv 3) pa_nil))) pa_nil))) (pa_cons (pe_or (pv 4) (pe_one (pe_cmpR (op_eqD hr.units) (pv 3) (pe_tup (pa_cons pe_int (pa_cons pe_int pa_nil))) (nomark _)))) pa_nil))))))), ?_⟩
    have mP := rPlace_mono
    have mT := rTurn_mono
    refine ⟨_, rfl, _, rfl, _, _, p, r, rfl, h1, h4, G.kp.1, G.kp.2, G.kr.1, G.kr.w, fun H1 w1 s1 N1 => ?_⟩
    refine ⟨_, rfl, _, rfl, _, _, o, r, rfl, mP.go s1 h2, mT.go s1 h4, G.ko.1, G.ko.2, G.kr.1, G.kr.w, fun H2 w2 s2 N2 => ?_⟩
    have a2 := s1.trans s2
    refine ⟨_, _, turnedIn p r, turnedIn o r, rfl, mP.go s2 N1.place, N2.place, G.tp.1, G.tp.2, G.tO.1, G.tO.2, fun H3 s3 => ?_⟩
    have a3 := a2.trans s3
    refine ⟨_, rfl, _, _, rfl, ?_⟩
    rw [decide_eq_true G.e1]
    refine ⟨_, rfl, iteF ?_⟩
    refine ⟨_, rfl, _, rfl, _, _, p, r, rfl, mP.go a3 h1, mT.go a3 h4, G.kp.1, G.kp.2, G.kr.1, G.kr.w, fun H4 w4 s4 N4 => ?_⟩
    have a4 := a3.trans s4
    refine ⟨_, rfl, _, rfl, _, _, o, r, rfl, mP.go a4 h2, mT.go a4 h4, G.ko.1, G.ko.2, G.kr.1, G.kr.w, fun H5 w5 s5 N5 => ?_⟩
    have a5 := a4.trans s5
    refine ⟨_, _, mirroredIn p r, mirroredIn o r, rfl, mP.go s5 N4.place, N5.place, G.mp.1, G.mp.2, G.mO.1, G.mO.2, fun H6 s6 => ?_⟩
    have a6 := a5.trans s6
    refine ⟨_, rfl, _, _, rfl, ?_⟩
    rw [decide_eq_true G.e2]
    refine ⟨_, rfl, iteF ?_⟩
    refine ⟨_, rfl, _, rfl, _, rfl, _, _, p, r, rfl, mP.go a6 h1, mT.go a6 h4, G.kp.1, G.kp.2, G.kr.1, G.kr.w, fun H7 w7 s7 N7 => ?_⟩
    have a7 := a6.trans s7
    refine ⟨_, _, p, turnedIn p r, rfl, mP.go a7 h1, N7.place, G.kp.1, G.wp, G.tp.1, G.tp.2, fun H8 s8 => ?_⟩
    have a8 := a7.trans s8
    have e3 := G.e3
    cases iz with
    | true =>
      refine ⟨_, rfl, true, rfl, iteT ⟨_, _, rfl, ?_⟩⟩
      rw [Bool.true_or] at e3
      rw [decide_eq_true e3]
      exact q _ a8
    | false =>
      refine ⟨_, rfl, false, rfl, iteF ⟨_, rfl, by show 2 ≤ sizeLine; decide, fun t nt => ?_⟩⟩
      have st := same_upd (o := .tup [V.int 0, .int 1]) nt
      refine cmp_eq fa_turn (by decide) (dp_turn (mT.go (a8.trans st) h4)) (dp_turn (t := (0, 1)) ⟨t, rfl, upd_same⟩) ⟨trivial, trivial⟩ ⟨trivial, trivial⟩ ⟨_, _, rfl, ?_⟩
      rw [Bool.false_or] at e3
      rw [decide_eq_true e3]
      exact q _ (a8.trans st)
end
end K31

set_option Elab.async false
set_option linter.all false
set_option maxRecDepth 100000
set_option maxHeartbeats 1000000
namespace K31
open PySem PySem.Spec PyProof.Rows L2
/-- a comprehension whose items are told of all but the list that grows -/
theorem lc_fmD {J : It} {n : Nat} {G : Hp → Prop} {Y : Nat → Hp → V → Hp → Prop} (wk : Walk J n G Y) {g : TG} {tt : TT} {te : TE} {vs : List Nat} {σ : L2.St} {H1 : Hp} {D : Addr} {Qd : Hp → Prop}
    {α : Type} {R : Rp α} (mR : ∀ {H H' : Hp} {v : V} {x : α}, (∀ b o, b ≠ D → H b = some o → H' b = some o) → R H v x → R H' v x) (F : Nat → Option α) (hz : n ≤ sizeLine) (hD : H1 D = none) (hG : ∀ H, Same H1 H → G H)
    (hs : ∀ i x H H', i < n → Same H1 H → H D ≠ none → Y i H x H' → ∀ (Qe : VK) (Ne : Hp → Prop), (∀ y H4 a, Same H H4 → F i = some a → R H4 y a → Qe y H4) → (∀ H4, Same H H4 → F i = none → Ne H4) →
      g x (wipe σ vs) H' fun σ2 H2 => wipe σ2 vs = wipe σ vs ∧ tt σ2 H2 fun b H3 => if b = true then te σ2 H3 Qe else Ne H3)
    (hd : ∀ H, Same H1 H → NewL R H1 H (.ref D) ((List.range n).filterMap F) → Qd H) :
    ∃ W : Nat → Nat → Hp → Prop, (∃ m, W 0 m (upd H1 D (.lst []))) ∧ ∀ i m H, W i m H →
      (J.stop i H ∧ Qd H) ∨ (J.go i H ∧ ∃ Nx : Hp → Prop, (∀ H', Nx H' → ∃ m', m' < m ∧ W (i + 1) m' H') ∧ ∀ x H', J.yld i H x H' → g x (wipe σ vs) H' fun σ2 H2 => wipe σ2 vs = wipe σ vs ∧ tt σ2 H2 fun b H3 =>
        if b = true then te σ2 H3 fun y H4 => ∃ acc, H4 D = some (.lst acc) ∧ acc.length < sizeLine ∧ Nx (upd H4 D (.lst (acc ++ [y]))) else Nx H3) := by
  refine lc_it wk (fun i H => Same H1 H ∧ ∃ xs, H D = some (.lst xs) ∧ xs.length ≤ i ∧ Paired (R H) xs ((List.range i).filterMap F)) ?_ (fun i H _ h => hG H h.1) (fun i x H H' hi h hy => ?_) (fun H h => ?_)
  · exact ⟨same_upd hD, [], upd_same, Nat.le_refl _, .nil⟩
  · obtain ⟨s1, xs, hx, hl, hp⟩ := h
    refine hs i x H H' hi s1 (by rw [hx]; exact fun z => nomatch z) hy _ _ (fun y H4 a s4 hF hR => ?_) (fun H4 s4 hF => ?_)
    · refine ⟨xs, s4 _ _ hx, by omega, ?_⟩
      have ts : ∀ b o, b ≠ D → H4 b = some o → upd H4 D (.lst (xs ++ [y])) b = some o := fun b o hb e => by
        rw [upd_ne hb]
        exact e
      refine ⟨Same.put hD (s1.trans s4), xs ++ [y], upd_same, by rw [List.length_append]; simp; omega, ?_⟩
      rw [fm_succ, hF]
      exact Paired.app (L2.Paired.mapP hp fun _ _ z => mR ts (mR (fun b o _ e => s4 b o e) z)) (.cons (mR ts hR) .nil)
    · refine ⟨s1.trans s4, xs, s4 _ _ hx, by omega, ?_⟩
      rw [fm_succ, hF]
      simp only [List.append_nil]
      exact L2.Paired.mapP hp fun _ _ z => mR (fun b o _ e => s4 b o e) z
  · obtain ⟨s1, xs, hx, hl, hp⟩ := h
    exact hd H s1 ⟨D, xs, rfl, hD, hx, hp⟩
theorem Paired.of_get {α β : Type} {F : α → β → Prop} : ∀ {l : List α} {m : List β}, l.length = m.length → (∀ (i : Nat) x y, l[i]? = some x → m[i]? = some y → F x y) → Paired F l m
  | [], [], _, _ => .nil
  | [], _ :: _, h, _ => by simp at h
  | _ :: _, [], h, _ => by simp at h
  | a :: l, b :: m, h, k => .cons (k 0 a b rfl rfl) (Paired.of_get (by simpa using h) fun i x y h1 h2 => k (i + 1) x y (by simpa using h1) (by simpa using h2))
/-! ### turns with a number behind them -/
abbrev TI := Sum Turn Int
def dTI : TI → PyData := Sum.elim dT PyData.int
theorem fa_ti : Fa dTI 1 (fun _ => True) := by
  refine ⟨fun a b => ?_, fun a _ => ?_, fun a => ?_⟩
  · cases a with
    | inl x =>
      cases b with
      | inl y =>
        show PyData.eqv (dT x) (dT y) = _
        rw [fa_turn.eqv]
        by_cases h : x = y <;> simp [h]
      | inr y => simp [dTI, dT, PyData.eqv]
    | inr x =>
      cases b with
      | inl y => simp [dTI, dT, PyData.eqv]
      | inr y =>
        show PyData.eqv (.int x) (.int y) = _
        rw [fa_int.eqv]
        by_cases h : x = y <;> simp [h]
  · cases a with
    | inl x => exact fa_turn.lay x ⟨trivial, trivial⟩
    | inr x => exact fa_int.lay x trivial
  · cases a with
    | inl x => exact fa_turn.dep x
    | inr x => exact Nat.le_trans (fa_int.dep x) (by decide)
def rTI : Rp TI := fun H v x => match x with
  | .inl t => rTurn H v t
  | .inr k => v = .int k
theorem rTI_mono : Mono rTI := ⟨fun {H H' v x} s h => by
  cases x with
  | inl t => exact rTurn_mono.go s h
  | inr k => exact h⟩
theorem dp_ti {K : PySem.W.Frag} {H : Hp} {v : V} {x : TI} (h : rTI H v x) : Dp K H v (dTI x) := by
  cases x with
  | inl t => exact dp_turn h
  | inr k => exact dp_int h
abbrev Al := Str × List TI
def dAl (x : Al) : PyData := .tuple [.str x.1, .list (x.2.map dTI)]
def dAls (l : List Al) : PyData := .list (l.map dAl)
theorem fa_als : Fa dAls 4 (fun l => ∀ x ∈ l, okS x.1 ∧ ∀ y ∈ x.2, True) := fa_list (fa_pair fa_str (fa_list fa_ti))
theorem dp_als {K : PySem.W.Frag} {H : Hp} {v : V} {l : List Al} (h : rList (rPair rStr (rList rTI)) H v l) : Dp K H v (dAls l) := dp_list (f := dAl) (fun h => dp_pair (f := .str) (g := fun l : List TI => .list (l.map dTI)) dp_str (fun h => dp_list (f := dTI) dp_ti h) h) h
theorem rTI_su {D : Addr} {H H' : Hp} (s : ∀ b xs, H b = some (.tup xs) → H' b = some (.tup xs)) {v : V} {x : TI} (h : rTI H v x) : rTI H' v x := by
  cases x with
  | inl t => exact rTurn_tm.go s h
  | inr k => exact h
/-- one row, D not its list -/
def rAp (D : Addr) : Rp Al := fun H v x => ∃ t l ys, v = .ref t ∧ t ≠ D ∧ l ≠ D ∧ H t = some (.tup [.str x.1, .ref l]) ∧ H l = some (.lst ys) ∧ Paired (rTI H) ys x.2 ∧ ∀ y ∈ ys, y ≠ .ref D
theorem rAp_su {D : Addr} {H H' : Hp} {v : V} {x : Al} (s : ∀ b o, b ≠ D → H b = some o → H' b = some o) (h : rAp D H v x) : rAp D H' v x := by
  obtain ⟨t, l, ys, e, h1, h2, h3, h4, h5, h6⟩ := h
  refine ⟨t, l, ys, e, h1, h2, s _ _ h1 h3, s _ _ h2 h4, ?_, h6⟩
  clear h4
  generalize x.2 = zs at h5
  induction h5 with
  | nil => exact .nil
  | @cons a b as bs r t ih =>
    refine .cons ?_ (ih fun y hy => h6 y (List.mem_cons_of_mem _ hy))
    cases b with
    | inl t =>
      obtain ⟨p, e, hp⟩ := r
      exact ⟨p, e, s _ _ (fun z => h6 a List.mem_cons_self (by rw [e, z])) hp⟩
    | inr k => exact r
theorem inl_pair {H : Hp} : ∀ {ys : List V} {ts : List Turn}, Paired (rTurn H) ys ts → Paired (rTI H) ys (ts.map Sum.inl)
  | _, _, .nil => .nil
  | _, _, .cons r t => .cons r (inl_pair t)
def alIn (p : Pl) : List Al := (List.range p.length).filterMap fun k : Nat => p[k]?.map fun x => (x.1, x.2.map Sum.inl ++ [Sum.inr (k : Int)])
theorem alIn_get {p : Pl} : ∀ k : Nat, (alIn p)[k]? = p[k]?.map fun x => (x.1, x.2.map Sum.inl ++ [Sum.inr (k : Int)]) := by
  have gen : ∀ (l : List Nat), (∀ k ∈ l, k < p.length) → ∀ i : Nat, (l.filterMap fun k : Nat => p[k]?.map fun x => ((x.1, x.2.map Sum.inl ++ [Sum.inr (k : Int)]) : Al))[i]? = l[i]?.bind fun k : Nat => p[k]?.map fun x => (x.1, x.2.map Sum.inl ++ [Sum.inr (k : Int)]) := by
    intro l
    induction l with
    | nil => intro _ i; simp
    | cons a l ih =>
      intro h i
      obtain ⟨x, hx⟩ : ∃ x, p[a]? = some x := ⟨_, List.getElem?_eq_getElem (h a List.mem_cons_self)⟩
      rw [List.filterMap_cons, hx]
      cases i with
      | zero => simp [hx]
      | succ i =>
        simp only [Option.map_some, List.getElem?_cons_succ]
        exact ih (fun k hk => h k (List.mem_cons_of_mem _ hk)) i
  intro k
  unfold alIn
  rw [gen _ (fun k hk => List.mem_range.mp hk) k]
  by_cases hk : k < p.length
  · rw [List.getElem?_range hk]
    rfl
  · rw [List.getElem?_eq_none (by rw [List.length_range]; omega), List.getElem?_eq_none (show p.length ≤ k by omega)]
    rfl
theorem alIn_len (p : Pl) : (alIn p).length = p.length := by
  have h1 : ¬ p.length < (alIn p).length := fun h => by
    have := List.getElem?_eq_getElem h
    rw [alIn_get, List.getElem?_eq_none (Nat.le_refl _)] at this
    cases this
  have h2 : ¬ (alIn p).length < p.length := fun h => by
    have e := alIn_get (p := p) (alIn p).length
    rw [List.getElem?_eq_none (Nat.le_refl _), List.getElem?_eq_getElem h] at e
    cases e
  omega
theorem RowsAt.at {H0 H : Hp} : ∀ {xs : List V} {p : Pl} {ls : List Addr}, RowsAt H0 H xs p ls → ∀ (i : Nat) x, p[i]? = some x → ∃ t l ys, xs[i]? = some (.ref t) ∧ ls[i]? = some l ∧ H t = some (.tup [.str x.1, .ref l]) ∧ H l = some (.lst ys) ∧ Paired (rTurn H) ys x.2
  | _, _, _, .nil, i, x, h => by simp at h
  | _, _, _, .cons h1 h2 h3 h4 h5 h6, 0, x, h => by
    simp at h
    subst h
    exact ⟨_, _, _, rfl, rfl, h1, h3, h4⟩
  | _, _, _, .cons h1 h2 h3 h4 h5 h6, i + 1, x, h => by
    obtain ⟨t, l, ys, a, b, c⟩ := RowsAt.at h6 i x (by simpa using h)
    exact ⟨t, l, ys, by simpa using a, by simpa using b, c⟩
theorem RowsAt.nd {H0 H : Hp} : ∀ {xs : List V} {p : Pl} {ls : List Addr}, RowsAt H0 H xs p ls → ls.Nodup ∧ xs.length = p.length ∧ ls.length = p.length
  | _, _, _, .nil => ⟨.nil, rfl, rfl⟩
  | _, _, _, .cons h1 h2 h3 h4 h5 h6 => by
    obtain ⟨a, b, c⟩ := RowsAt.nd h6
    exact ⟨List.nodup_cons.mpr ⟨h5, a⟩, by simp [b], by simp [c]⟩
theorem nodup_idx {α : Type} {l : List α} (h : l.Nodup) {i j : Nat} {x : α} (hi : l[i]? = some x) (hj : l[j]? = some x) : i = j := by
  obtain ⟨a, ea⟩ := List.getElem?_eq_some_iff.mp hi
  obtain ⟨b, eb⟩ := List.getElem?_eq_some_iff.mp hj
  exact (List.getElem_inj h).mp (ea.trans eb.symm)
section
variable {P : Program} {w : World} {K : PySem.W.Frag} {mg : Str → Option Value} {base : Heap}
def sp_stand : Sp := fun vs H Q _ => ∃ a xs ls p v2 H0 Hd, vs = [.ref a, v2] ∧ H a = some (.lst xs) ∧ RowsAt H0 H xs p ls ∧ a ∉ ls ∧ (∀ l ∈ ls, Hd l ≠ none) ∧ NewPl Hd H v2 p ∧ okP p ∧ p.length ≤ 100 ∧ (∀ x ∈ p, x.2.length ≤ 3) ∧
  ∀ H', (∀ b o, b ∉ ls → H b = some o → H' b = some o) → Q (.bl true) H'
theorem df__law_stand_alone (T : Txt K mg) : Df P w K mg base 1 "_law_stand_alone" ["_law_found", "_law_due"] sp_stand := by
  refine Df.mk T.a__law_stand_alone sc__law_stand_alone (fun _ _ _ _ _ _ us hl => match us, hl with | [_, _], _ => rfl) (fun vs H Q E h => ?_) (fun f cdv A outer s H vs Q E hr h => ?_)
  · obtain ⟨_, _, _, _, _, _, _, rfl, _⟩ := h
    rfl
  · obtain ⟨a, xs, ls, p, v2, H0, Hd, rfl, ha, hrow, hal, hls, ⟨d, xd, ld, rfl, hdd, hd, hrd, hdl⟩, hok, hpl, hp3, q⟩ := h
    refine ⟨_, (pss_cons (ps_set (i := 2) sc__law_stand_alone.nd rfl (.inl rfl) pe_int)
  (pss_cons (ps_for PassesOwn.never rfl (pi_listK (K := K) rfl (pv 0)) (pg_tup rfl (pgs_cons (pg_name (i := 3) sc__law_stand_alone.nd rfl (.inl rfl)) (pgs_cons (pg_name (i := 4) sc__law_stand_alone.nd rfl (.inl rfl)) pgs_nil)))
  (pss_cons (ps_expr (pe_bm PySem.F.plainAttrs_list PySem.F.slot_list_append PySem.F.type_list_append mt_append (pv 4) (pa_cons (pv 2) pa_nil)))
  (pss_one (ps_set (i := 2) sc__law_stand_alone.nd rfl (.inl rfl) (pe_op op_add (pv 2) pe_int)))))
  (pss_one (ps_ret (pe_cmpR (op_eqD hr.units) (pv 0) (pe_lc (own := [("_law_k", 2)]) (g := gName 2) (tt := tYes) (by rfl) sc__law_stand_alone.nd (pi_range1 (by rfl) T.z_range (pa_cons (pe_callB call_len_seq (by rfl) T.z_len bt_len (pa_cons (pv 1) pa_nil)) pa_nil)) (blkOk_by (own := [("_law_k", 2)]) (N := ["_law_found", "_law_due", "_law_k", "_law_name", "_law_turns_here"]) (sc := defScope s__law_stand_alone) (by decide +kernel)) (fun _ _ _ _ _ => (pg_name (i := 2) sc__law_stand_alone.nd rfl (.inl rfl))) (fun _ _ _ _ _ => pts_nil) (fun _ _ _ _ _ => (pe_tup (pa_cons (pe_ix (ix_tupK (K := K) rfl) (pe_ix (ix_listK (K := K) rfl) (pv 1) (pv 2) (fun _ _ => rfl)) pe_int (fun _ _ => rfl)) (pa_cons (pe_op op_cat (pe_ix (ix_tupK (K := K) rfl) (pe_ix (ix_listK (K := K) rfl) (pv 1) (pv 2) (fun _ _ => rfl)) pe_int (fun _ _ => rfl)) (pe_lst (pa_cons (pv 2) pa_nil))) pa_nil))))) (nomark _)))))), ?_⟩
    obtain ⟨lnd, hxl, hll⟩ := hrow.nd
    obtain ⟨_, hxdl, hldl⟩ := hrd.nd
    have hlst : ∀ l ∈ ls, ∃ ys, H l = some (.lst ys) := fun l hl => (hrow.there l hl).2
    have tupls : ∀ b ys, H b = some (.tup ys) → b ∉ ls := fun b ys h hb => by
      obtain ⟨zs, hz⟩ := hlst b hb
      rw [h] at hz
      cases hz
    have hdls : d ∉ ls := fun h => hls d h hdd
    have hldls : ∀ l ∈ ld, l ∉ ls := fun l hl h => hls l h (hrd.there l hl).1
    have bk : ∀ {k : Nat}, k ≤ 100 → k ≤ sizeLine := fun h => small100 h
    refine ⟨_, rfl, a, rfl, ⟨xs, SqL_of ha⟩, for_it (walk_list (K := K) (a := a) (xs := xs))
      (fun i σ H' => ∃ y3 y4, σ = [some (.ref a), some (.ref d), some (.int (i : Int)), y3, y4] ∧ (∀ b o, b ∉ ls → H b = some o → H' b = some o) ∧ ∀ j l ys, ls[j]? = some l → H l = some (.lst ys) → H' l = some (.lst (if j < i then ys ++ [.int (j : Int)] else ys)))
      ⟨none, none, rfl, fun b o _ e => e, fun j l ys _ e => e⟩ (fun i σ H' _ h => ?_) (fun i x σ H1 H1' hi h hy => ?_) (fun σ H1 h => ?_)⟩
    · obtain ⟨_, _, _, h1, _⟩ := h
      exact SqL_of (h1 _ _ hal ha)
    · obtain ⟨y3, y4, rfl, sb, hin⟩ := h
      obtain ⟨rfl, hx⟩ := hy
      obtain ⟨row, hrw⟩ : ∃ row, p[i]? = some row := ⟨_, List.getElem?_eq_getElem (by omega)⟩
      obtain ⟨t, l, ys, hxt, hlt, ht, hl, hpy⟩ := hrow.at i row hrw
      rw [hxt] at hx
      obtain rfl := Option.some.inj hx
      have ht1 := sb _ _ (tupls _ _ ht) ht
      have hl1 := hin i l ys hlt hl
      rw [if_neg (Nat.lt_irrefl i)] at hl1
      have hyl : ys.length ≤ 3 := by
        rw [PySem.Paired.length hpy]
        exact hp3 row (List.mem_of_getElem? hrw)
      refine ⟨t, _, rfl, SqT_of ht1, rfl, _, _, rfl, _, _, rfl, rfl, ?_⟩
      refine ⟨_, rfl, .inl ⟨rfl, _, SqL_of hl1⟩, _, rfl, l, ys, _, rfl, rfl, hl1, small200 (by omega), ?_⟩
      refine ⟨_, rfl, _, _, rfl, rfl, _, _, rfl, fun b o hb e => ?_, fun j l' ys' hj hl' => ?_⟩
      · rw [upd_ne fun z => hb (by rw [z]; exact List.mem_of_getElem? hlt)]
        exact sb b o hb e
      · by_cases hji : l' = l
        · subst hji
          obtain rfl := nodup_idx lnd hj hlt
          rw [hl] at hl'
          cases hl'
          rw [upd_same, if_pos (by omega)]
        · rw [upd_ne hji, hin j l' ys' hj hl']
          have hne : j ≠ i := fun z => by
            rw [z, hlt] at hj
            exact hji (Option.some.inj hj).symm
          by_cases hlt2 : j < i
          · rw [if_pos hlt2, if_pos (by omega)]
          · rw [if_neg hlt2, if_neg (by omega)]
    · obtain ⟨y3, y4, rfl, sb, hin⟩ := h
      rw [hxl] at hin
      have hd1 := sb _ _ hdls hd
      have ts : TSame H H1 := fun b ys h => sb _ _ (tupls _ _ h) h
      have hrd1 : RowsAt Hd H1 xd p ld := hrd.keep ts fun l hl ys h => sb _ _ (hldls l hl) h
      have hfound : rList (rPair rStr (rList rTI)) H1 (.ref a) (alIn p) := by
        refine ⟨a, xs, rfl, sb _ _ hal ha, Paired.of_get (by rw [alIn_len]; exact hxl) fun i x y hx hy => ?_⟩
        rw [alIn_get] at hy
        obtain ⟨row, hrw, rfl⟩ := Option.map_eq_some_iff.mp hy
        obtain ⟨t, l, ys, hxt, hlt, ht, hl, hpy⟩ := hrow.at i row hrw
        rw [hxt] at hx
        obtain rfl := Option.some.inj hx
        have hip : i < p.length := (List.getElem?_eq_some_iff.mp hrw).1
        have hl1 := hin i l ys hlt hl
        rw [if_pos hip] at hl1
        refine ⟨t, _, _, rfl, ts _ _ ht, rfl, l, _, rfl, hl1, Paired.app ?_ (.cons rfl .nil)⟩
        exact inl_pair (Paired.tm rTurn_tm ts hpy)
      refine ⟨_, rfl, _, rfl, d, xd, rfl, .inl (SqL_of hd1), _, rfl, ?_, ?_, fun D nD => lc_fmD (walk_range (n := ((xd.length : Nat) : Int).toNat)) (R := rAp D) rAp_su (fun k : Nat => p[k]?.map fun x => (x.1, x.2.map Sum.inl ++ [Sum.inr (k : Int)])) ?_ nD (fun _ _ => trivial) (fun k x H2 H2' hk s2 hDn hy Qe Ne hq hne => ?_) (fun H2 s2 hL => ?_)⟩
      · have := line63
        have h1 := bk (k := xd.length) (by omega)
        omega
      · have : (2 : Int) ^ 62 = 4611686018427387904 := by decide
        omega
      · have := bk (k := xd.length) (by omega)
        omega
      · obtain ⟨rfl, hxv⟩ := hy
        obtain rfl : x = .int (k : Int) := by
          rw [hxv]
          show V.int (0 + (k : Int)) = V.int (k : Int)
          rw [Int.zero_add]
        obtain ⟨row, hrw⟩ : ∃ row, p[k]? = some row := ⟨_, List.getElem?_eq_getElem (by omega)⟩
        obtain ⟨t, l, ys, hxt, hlt, ht, hl, hpy⟩ := hrd1.at k row hrw
        have hd2 := s2 _ _ hd1
        have ht2 := s2 _ _ ht
        have hl2 := s2 _ _ hl
        have hyl : ys.length ≤ 3 := by
          rw [PySem.Paired.length hpy]
          exact hp3 row (List.mem_of_getElem? hrw)
        refine ⟨rfl, yes_go ⟨_, rfl, _, rfl, d, xd, _, _, rfl, rfl, SqL_of hd2, atI_nat hxt, t, _, _, _, rfl, rfl, SqT_of ht2, i0, _, rfl, _, rfl, d, xd, _, _, rfl, rfl, SqL_of hd2, atI_nat hxt, t, _, _, _, rfl, rfl, SqT_of ht2, i1, _, rfl, by show 1 ≤ sizeLine; decide, fun e ne => ?_⟩⟩
        have se := same_upd (o := .lst [V.int (k : Int)]) ne
        refine ⟨l, e, ys, _, rfl, rfl, se _ _ hl2, upd_same, by have := bk (k := ys.length + 1) (by omega); exact this, fun r nr => ⟨by show 2 ≤ sizeLine; decide, fun t2 nt2 => ?_⟩⟩
        have sr := same_upd (o := .lst (ys ++ [V.int (k : Int)])) nr
        have st2 := same_upd (o := .tup [.str row.1, .ref r]) nt2
        have s5 := (se.trans sr).trans st2
        obtain ⟨oD, hoD⟩ := Option.ne_none_iff_exists'.mp hDn
        refine hq _ _ (row.1, row.2.map Sum.inl ++ [Sum.inr (k : Int)]) s5 (by rw [hrw]; rfl) ⟨t2, r, _, rfl, ?_, ?_, upd_same, st2 _ _ upd_same, ?_, ?_⟩
        · exact (ne_of_none ((se.trans sr) _ _ hoD) nt2).symm
        · exact (ne_of_none (se _ _ hoD) nr).symm
        · refine Paired.app ?_ (.cons rfl .nil)
          exact inl_pair (Paired.mono rTurn_mono (s2.trans s5) hpy)
        · intro y hy
          rcases List.mem_append.mp hy with h | h
          · obtain ⟨i, hi⟩ := List.mem_iff_getElem?.mp h
            obtain ⟨tt, htt, pp, rfl, hpp⟩ := Paired.get hpy hi
            intro z
            cases z
            rw [hpp] at nD
            cases nD
          · rw [List.mem_singleton.mp h]
            intro z
            cases z
      · rw [show ((xd.length : Nat) : Int).toNat = p.length by omega] at hL
        have hdue : rList (rPair rStr (rList rTI)) H2 (.ref D) (alIn p) := by
          obtain ⟨D', zs, e, _, h1, h2⟩ := hL
          exact ⟨D', zs, e, h1, L2.Paired.mapP h2 fun _ _ ⟨t, l, ys, e, _, _, h3, h4, h5, _⟩ => ⟨t, _, _, e, h3, rfl, l, ys, rfl, h4, h5⟩⟩
        have hokA : ∀ x ∈ alIn p, okS x.1 ∧ ∀ y ∈ x.2, True := fun x hx => by
          obtain ⟨i, hi⟩ := List.mem_iff_getElem?.mp hx
          rw [alIn_get] at hi
          obtain ⟨row, hrw, rfl⟩ := Option.map_eq_some_iff.mp hi
          exact ⟨(hok row (List.mem_of_getElem? hrw)).1, fun _ _ => trivial⟩
        refine cmp_eq fa_als (by decide) (dp_als ((rList_mono (rPair_mono rStr_mono (rList_mono rTI_mono))).go s2 hfound)) (dp_als hdue) hokA hokA ?_
        rw [decide_eq_true rfl]
        exact q _ fun b o hb e => s2 _ _ (sb b o hb e)
end
end K31

set_option Elab.async false
set_option linter.all false
set_option maxRecDepth 100000
set_option maxHeartbeats 20000000
set_option pp.maxSteps 400
namespace K31
open PySem PySem.Spec PyProof.Rows L2
theorem NewPl.su {u : Addr} {c : Nat} {H0 H H' : Hp} {v : V} {p : Pl} (h : NewPl H0 H v p) (hu : H0 u ≠ none) (hU : UrnAt H u c) (s : SU u H H') : NewPl H0 H' v p := by
  obtain ⟨a, xs, ls, e, h0, h1, h2, h3⟩ := h
  refine ⟨a, xs, ls, e, h0, s _ _ (fun z => hu (by rw [← z]; exact h0)) h1, h2.keep (SU.tup hU s) fun l hl ys hy => s _ _ (fun z => hu (by rw [← z]; exact (h2.there l hl).1)) hy, h3⟩
theorem NewPl.same {H0 H H' : Hp} {v : V} {p : Pl} (h : NewPl H0 H v p) (s : Same H H') : NewPl H0 H' v p := by
  obtain ⟨a, xs, ls, e, h0, h1, h2, h3⟩ := h
  exact ⟨a, xs, ls, e, h0, s _ _ h1, h2.keep (.of s) fun l hl ys hy => s _ _ hy, h3⟩
theorem NewL.su {α : Type} {R : Rp α} (mR : TM R) {u : Addr} {c : Nat} {H0 H H' : Hp} {v : V} {l : List α} (h : NewL R H0 H v l) (hu : H0 u ≠ none) (hU : UrnAt H u c) (s : SU u H H') : NewL R H0 H' v l := by
  obtain ⟨a, xs, e, h0, h1, h2⟩ := h
  exact ⟨a, xs, e, h0, s _ _ (fun z => hu (by rw [← z]; exact h0)) h1, Paired.tm mR (SU.tup hU s) h2⟩
theorem UrnAt.ne {H : Hp} {u : Addr} {c : Nat} (h : UrnAt H u c) : H u ≠ none := by
  obtain ⟨o, h1, _⟩ := h
  rw [h1]
  exact fun z => nomatch z
theorem place_b {rows : List Row} {n : Nat} {more : Turn} (h0 : 0 < n) (hn : n ≤ 300) (hok : RowsOk n rows) (hm : TOk 84 more) : PlB 93 (placeIn rows n more) := by
  refine ⟨?_, fun x hx => ?_⟩
  · unfold placeIn namesOf
    rw [List.length_map]
    have := List.length_filter_le (fun z => decide (z ∈ rows.map Prod.fst)) names6
    have h6 : names6.length = 6 := rfl
    omega
  · obtain ⟨z, hz, rfl⟩ := List.mem_map.mp hx
    refine ⟨?_, fun t ht => ?_⟩
    · show (inOrder _).length ≤ 3
      rw [(inOrder_perm _).length_eq, List.length_map]
      exact hok.2.2 z
    · have := (inOrder_perm _).mem_iff.mp ht
      obtain ⟨r, _, rfl⟩ := List.mem_map.mp this
      exact rowT_ok h0 hn hm r
theorem PlB.mono {a b : Nat} {p : Pl} (h : PlB a p) (l : a ≤ b) : PlB b p := ⟨h.1, fun x hx => ⟨(h.2 x hx).1, fun t ht => ((h.2 x hx).2 t ht).mono l⟩⟩
theorem NewL.same {α : Type} {R : Rp α} (mR : TM R) {H0 H H' : Hp} {v : V} {l : List α} (h : NewL R H0 H v l) (s : Same H H') : NewL R H0 H' v l := by
  obtain ⟨a, xs, e, h0, h1, h2⟩ := h
  exact ⟨a, xs, e, h0, s _ _ h1, Paired.tm mR (.of s) h2⟩
/-- the same, and its lists stand at another heap -/
def NewPl2 (H0 Hx H : Hp) (v : V) (p : Pl) : Prop := ∃ a xs ls, v = .ref a ∧ H0 a = none ∧ H a = some (.lst xs) ∧ RowsAt H0 H xs p ls ∧ a ∉ ls ∧ ∀ l ∈ ls, Hx l ≠ none
theorem NewPl2.new {H0 H : Hp} {v : V} {p : Pl} (h : NewPl H0 H v p) : NewPl2 H0 H H v p := by
  obtain ⟨a, xs, ls, e, h0, h1, h2, h3⟩ := h
  exact ⟨a, xs, ls, e, h0, h1, h2, h3, fun l hl z => by
    obtain ⟨ys, hy⟩ := (h2.there l hl).2
    rw [z] at hy
    cases hy⟩
theorem NewPl2.pl {H0 Hx H : Hp} {v : V} {p : Pl} (h : NewPl2 H0 Hx H v p) : NewPl H0 H v p := by
  obtain ⟨a, xs, ls, e, h0, h1, h2, h3, _⟩ := h
  exact ⟨a, xs, ls, e, h0, h1, h2, h3⟩
theorem NewPl2.place {H0 Hx H : Hp} {v : V} {p : Pl} (h : NewPl2 H0 Hx H v p) : rPlace H v p := h.pl.place
theorem NewPl2.su {u : Addr} {c : Nat} {H0 Hx H H' : Hp} {v : V} {p : Pl} (h : NewPl2 H0 Hx H v p) (hu : H0 u ≠ none) (hU : UrnAt H u c) (s : SU u H H') : NewPl2 H0 Hx H' v p := by
  obtain ⟨a, xs, ls, e, h0, h1, h2, h3, h4⟩ := h
  refine ⟨a, xs, ls, e, h0, s _ _ (fun z => hu (by rw [← z]; exact h0)) h1, h2.keep (SU.tup hU s) fun l hl ys hy => s _ _ (fun z => hu (by rw [← z]; exact (h2.there l hl).1)) hy, h3, h4⟩
theorem NewPl2.same {H0 Hx H H' : Hp} {v : V} {p : Pl} (h : NewPl2 H0 Hx H v p) (s : Same H H') : NewPl2 H0 Hx H' v p := by
  obtain ⟨a, xs, ls, e, h0, h1, h2, h3, h4⟩ := h
  exact ⟨a, xs, ls, e, h0, s _ _ h1, h2.keep (.of s) fun l hl ys hy => s _ _ hy, h3, h4⟩
/-- what the draw has made, at a heap -/
structure Bun (u : Addr) (c : Nat) (Ha Hb Hc Hd He Hf Hg : Hp) (v3 v5 v6 v7 v12 v13 v14 v1 v2 : V) (rows others : List Row) (p o p1 m1 : Pl) (r s : Turn) (H : Hp) : Prop where
  ex : UrnAt H u c
  rows : NewL rRow Ha H v3 rows
  othr : NewL rRow Hb H v5 others
  whr : NewPl Hc H v6 p
  oth : NewPl Hd H v7 o
  sht : NewPl He H v12 p
  tld : NewPl2 Hf Hg H v13 p1
  gls : NewPl Hg H v14 m1
  one : rTurn H v1 r
  two : rTurn H v2 s
theorem Bun.same {u : Addr} {c : Nat} {Ha Hb Hc Hd He Hf Hg : Hp} {v3 v5 v6 v7 v12 v13 v14 v1 v2 : V} {rows others : List Row} {p o p1 m1 : Pl} {r s : Turn} {H H' : Hp} (B : Bun u c Ha Hb Hc Hd He Hf Hg v3 v5 v6 v7 v12 v13 v14 v1 v2 rows others p o p1 m1 r s H) (t : Same H H') : Bun u c Ha Hb Hc Hd He Hf Hg v3 v5 v6 v7 v12 v13 v14 v1 v2 rows others p o p1 m1 r s H' := by
  obtain ⟨hc, b1, b2, b3, b4, b5, b6, b7, b8, b9⟩ := B
  exact ⟨hc.same t, b1.same rRow_tm t, b2.same rRow_tm t, b3.same t, b4.same t, b5.same t, b6.same t, b7.same t, rTurn_mono.go t b8, rTurn_mono.go t b9⟩
theorem Bun.put {u : Addr} {Ha Hb Hc Hd He Hf Hg : Hp} {v3 v5 v6 v7 v12 v13 v14 v1 v2 : V} {rows others : List Row} {p o p1 m1 : Pl} {r s : Turn} {H : Hp} {c0 c : Nat} {o1 : HO} (B : Bun u c0 Ha Hb Hc Hd He Hf Hg v3 v5 v6 v7 v12 v13 v14 v1 v2 rows others p o p1 m1 r s H)
    (ha : Ha u ≠ none) (hb : Hb u ≠ none) (hc : Hc u ≠ none) (hd : Hd u ≠ none) (he : He u ≠ none) (hf : Hf u ≠ none) (hg : Hg u ≠ none) (ho : UrnO o1 c) : Bun u c Ha Hb Hc Hd He Hf Hg v3 v5 v6 v7 v12 v13 v14 v1 v2 rows others p o p1 m1 r s (upd H u o1) := by
  obtain ⟨hc0, b1, b2, b3, b4, b5, b6, b7, b8, b9⟩ := B
  have t : SU u H (upd H u o1) := SU.upd
  exact ⟨.put ho, b1.su rRow_tm ha hc0 t, b2.su rRow_tm hb hc0 t, b3.su hc hc0 t, b4.su hd hc0 t, b5.su he hc0 t, b6.su hf hc0 t, b7.su hg hc0 t, rTurn_tm.go (SU.tup hc0 t) b8, rTurn_tm.go (SU.tup hc0 t) b9⟩
/-- what the laws ask of the places of one draw -/
structure RightOk (n : Nat) (rows others : List Row) (p o : Pl) (r s far : Turn) : Prop where
  kp : OkPl p
  g : GroupOk p r s
  e1 : turnedIn p r = eachIn p 1 r
  e2 : mirroredIn p r = eachIn p (-1) r
  e0 : turnedIn p (0, 1) = p
  e3 : turnedIn p far = eachIn p 1 far
  e4 : mirroredIn p far = eachIn p (-1) far
  wz : decide (writtenIn p = []) = decide (dotIn rows n = dotIn [] n)
  d : DotsOk p o (decide (dotIn rows n = dotIn others n)) r (decide (writtenIn p = []))
def RightAll : Prop := ∀ (n : Nat) (rows others : List Row) (more r s far : Turn), 0 < n → n ≤ 300 → RowsOk n rows → RowsOk n others → IsTurn more → TOk 84 more → IsTurn r → TOk 84 r → IsTurn s → TOk 84 s → IsTurn far → TOk 296 far → RightOk n rows others (placeIn rows n more) (placeIn others n more) r s far
section
variable {P : Program} {w : World} {K : PySem.W.Frag} {mg : Str → Option Value} {base : Heap}
def sp_right : Sp := fun vs H Q _ => ∃ u : Addr, vs = [.ref u] ∧ UrnAt H u 0 ∧ ∀ H', SU u H H' → Q (.bl true) H'
theorem df__law_right (T : Txt K mg) (hall : RightAll) : Df P w K mg base 11 "_law_right" ["_law_urn_here"] sp_right := by
  have D__law_pick := df__law_pick (P := P) (w := w) (base := base) T
  have D__law_spread := df__law_spread (P := P) (w := w) (base := base) T
  have D__law_drawn_turn := df__law_drawn_turn (P := P) (w := w) (base := base) T
  have D__law_same_rows := df__law_same_rows (P := P) (w := w) (base := base) T
  have D__law_place := df__law_place (P := P) (w := w) (base := base) T
  have D__law_left := df__law_left (P := P) (w := w) (base := base) T
  have D__law_fraction := df__law_fraction (P := P) (w := w) (base := base) T
  have D__law_each := df__law_each (P := P) (w := w) (base := base) T
  have D__law_dot := df__law_dot (P := P) (w := w) (base := base) T
  have D__law_group_right := df__law_group_right (P := P) (w := w) (base := base) T
  have D__law_dots_right := df__law_dots_right (P := P) (w := w) (base := base) T
  have D__law_stand_alone := df__law_stand_alone (P := P) (w := w) (base := base) T
  have D_turned := df_turned (P := P) (w := w) (base := base) T
  have D_mirrored := df_mirrored (P := P) (w := w) (base := base) T
  have D_written := df_written (P := P) (w := w) (base := base) T
  have G_turned := dg_turned (P := P) (w := w) (base := base) T
  have G_mirrored := dg_mirrored (P := P) (w := w) (base := base) T
  refine Df.mk T.a__law_right sc__law_right (fun _ _ _ _ _ _ us hl => match us, hl with | [_], _ => rfl) (fun vs H Q E h => ?_) (fun f cdv A outer s H vs Q E hr h => ?_)
  · obtain ⟨_, rfl, _⟩ := h
    rfl
  · obtain ⟨u, rfl, hu, q⟩ := h
    refine ⟨_, (pss_cons (ps_set (i := 1) sc__law_right.nd rfl (.inl rfl) (pe_ix (ix_listK (K := K) rfl) (pe_lst (pa_cons (pe_op op_add pe_int (pe_df D__law_pick hr (by decide) (by rfl) (pa_cons (pv 0) (pa_cons pe_int pa_nil)))) (pa_cons pe_int (pa_cons pe_int (pa_cons pe_int (pa_cons pe_int (pa_cons pe_int pa_nil))))))) (pe_df D__law_pick hr (by decide) (by rfl) (pa_cons (pv 0) (pa_cons pe_int pa_nil))) (fun _ _ => rfl)))
  (pss_cons (ps_par (i := 2) (j := 3) (by rfl) sc__law_right.nd rfl rfl (by decide) rfl rfl (pa_cons (pe_df D__law_spread hr (by decide) (by rfl) (pa_cons (pv 0) (pa_cons (pv 1) pa_nil))) (pa_cons (pe_df D__law_drawn_turn hr (by decide) (by rfl) (pa_cons (pv 0) pa_nil)) pa_nil)) (by rfl))
  (pss_cons (ps_set (i := 4) sc__law_right.nd rfl (.inl rfl) (pe_df D__law_same_rows hr (by decide) (by rfl) (pa_cons (pv 0) (pa_cons (pv 2) (pa_cons (pv 1) pa_nil)))))
  (pss_cons (ps_par (i := 5) (j := 6) (by rfl) sc__law_right.nd rfl rfl (by decide) rfl rfl (pa_cons (pe_df D__law_place hr (by decide) (by rfl) (pa_cons (pv 2) (pa_cons (pv 1) (pa_cons (pv 3) pa_nil)))) (pa_cons (pe_df D__law_place hr (by decide) (by rfl) (pa_cons (pv 4) (pa_cons (pv 1) (pa_cons (pv 3) pa_nil)))) pa_nil)) (by rfl))
  (pss_cons (ps_par (i := 7) (j := 8) (by rfl) sc__law_right.nd rfl rfl (by decide) rfl rfl (pa_cons (pe_ix (ix_listK (K := K) rfl) (pe_lst (pa_cons (pe_df D__law_left hr (by decide) (by rfl) (pa_cons (pe_df D__law_pick hr (by decide) (by rfl) (pa_cons (pv 0) (pa_cons (pv 1) pa_nil))) (pa_cons (pv 1) pa_nil))) (pa_cons (pe_df D__law_drawn_turn hr (by decide) (by rfl) (pa_cons (pv 0) pa_nil)) pa_nil))) (pe_df D__law_pick hr (by decide) (by rfl) (pa_cons (pv 0) (pa_cons pe_int pa_nil))) (fun _ _ => rfl)) (pa_cons (pe_df D__law_drawn_turn hr (by decide) (by rfl) (pa_cons (pv 0) pa_nil)) pa_nil)) (by rfl))
  (pss_cons (ps_set (i := 9) sc__law_right.nd rfl (.inl rfl) (pe_df D__law_place hr (by decide) (by rfl) (pa_cons (pv 2) (pa_cons (pv 1) (pa_cons (pv 3) pa_nil)))))
  (pss_cons (ps_par (i := 10) (j := 11) (by rfl) sc__law_right.nd rfl rfl (by decide) rfl rfl (pa_cons (pe_df D_turned hr (by decide) (by rfl) (pa_cons (pv 5) (pa_cons (pv 7) pa_nil))) (pa_cons (pe_df D_mirrored hr (by decide) (by rfl) (pa_cons (pv 5) (pa_cons (pv 7) pa_nil))) pa_nil)) (by rfl))
  (pss_cons (ps_if (PW.pt (pw_or (pt_cmpR (op_neD hr.units) (pv 10) (pe_df D__law_each hr (by decide) (by rfl) (pa_cons (pv 5) (pa_cons pe_int (pa_cons (pv 7) pa_nil)))) (nomark _)) (pw_or (pt_cmpR (op_neD hr.units) (pv 11) (pe_df D__law_each hr (by decide) (by rfl) (pa_cons (pv 5) (pa_cons (pe_un un_neg pe_int) (pa_cons (pv 7) pa_nil)))) (nomark _)) (pw_or1 (pt_cmpR (op_neD hr.units) (pv 5) (pv 9) (nomark _)))))) (pss_one (ps_ret pe_bl)) pss_nil)
  (pss_cons (ps_if (PW.pt (pw_or (pt_not (pt_val (pe_callB call_isi (by rfl) T.z_isinstance bt_isinstance (pa_cons (pv 10) (pa_cons (pe_bltn (v := .ty "list") (by rfl) T.z_list bt_list rfl) pa_nil))))) (pw_or (pt_not (pt_val (pe_callB call_isi (by rfl) T.z_isinstance bt_isinstance (pa_cons (pv 11) (pa_cons (pe_bltn (v := .ty "list") (by rfl) T.z_list bt_list rfl) pa_nil))))) (pw_or1 (pt_cmpR (op_neD hr.units) (pe_dfk G_turned kb_turned hr (by decide) (by rfl) (pk_cons (pv 7) (pk_cons (pv 5) pk_nil))) (pv 10) (nomark _)))))) (pss_one (ps_ret pe_bl)) pss_nil)
  (pss_cons (ps_if (PW.pt (pw_or (pt_cmpR (op_neD hr.units) (pe_dfk G_mirrored kb_mirrored hr (by decide) (by rfl) (pk_cons (pv 7) (pk_cons (pv 5) pk_nil))) (pv 11) (nomark _)) (pw_or1 (pt_cmpR (op_neD hr.units) (pe_df D_turned hr (by decide) (by rfl) (pa_cons (pv 5) (pa_cons (pe_tup (pa_cons pe_int (pa_cons pe_int pa_nil))) pa_nil))) (pv 5) (nomark _))))) (pss_one (ps_ret pe_bl)) pss_nil)
  (pss_cons (ps_set (i := 12) sc__law_right.nd rfl (.inl rfl) (pe_op op_add pe_int (pe_df D__law_pick hr (by decide) (by rfl) (pa_cons (pv 0) (pa_cons (pe_op op_mulW (pe_op op_powW pe_int pe_int) (pe_op op_powW pe_int pe_int)) pa_nil)))))
  (pss_cons (ps_set (i := 13) sc__law_right.nd rfl (.inl rfl) (pe_df D__law_fraction hr (by decide) (by rfl) (pa_cons (pe_df D__law_pick hr (by decide) (by rfl) (pa_cons (pv 0) (pa_cons (pv 12) pa_nil))) (pa_cons (pv 12) pa_nil))))
  (pss_cons (ps_if (PW.pt (pw_or (pt_cmpR (op_neD hr.units) (pe_df D_turned hr (by decide) (by rfl) (pa_cons (pv 5) (pa_cons (pv 13) pa_nil))) (pe_df D__law_each hr (by decide) (by rfl) (pa_cons (pv 5) (pa_cons pe_int (pa_cons (pv 13) pa_nil)))) (nomark _)) (pw_or1 (pt_cmpR (op_neD hr.units) (pe_df D_mirrored hr (by decide) (by rfl) (pa_cons (pv 5) (pa_cons (pv 13) pa_nil))) (pe_df D__law_each hr (by decide) (by rfl) (pa_cons (pv 5) (pa_cons (pe_un un_neg pe_int) (pa_cons (pv 13) pa_nil)))) (nomark _))))) (pss_one (ps_ret pe_bl)) pss_nil)
  (pss_cons (ps_set (i := 14) sc__law_right.nd rfl (.inl rfl) (pe_cmpR (op_eqD hr.units) (pe_df D__law_dot hr (by decide) (by rfl) (pa_cons (pv 2) (pa_cons (pv 1) pa_nil))) (pe_df D__law_dot hr (by decide) (by rfl) (pa_cons (pv 4) (pa_cons (pv 1) pa_nil))) (nomark _)))
  (pss_cons (ps_if (PW.pt (pw_or (pt_not (pt_val (pe_df D__law_group_right hr (by decide) (by rfl) (pa_cons (pv 5) (pa_cons (pv 7) (pa_cons (pv 8) pa_nil)))))) (pw_or1 (pt_cmpR op_ne (pe_cmpR (op_eqD hr.units) (pe_df D_written hr (by decide) (by rfl) (pa_cons (pv 5) pa_nil)) (pe_tup pa_nil) (nomark _)) (pe_cmpR (op_eqD hr.units) (pe_df D__law_dot hr (by decide) (by rfl) (pa_cons (pv 2) (pa_cons (pv 1) pa_nil))) (pe_df D__law_dot hr (by decide) (by rfl) (pa_cons (pe_lst pa_nil) (pa_cons (pv 1) pa_nil))) (nomark _)) (nomark _))))) (pss_one (ps_ret pe_bl)) pss_nil)
  (pss_cons (ps_if (pt_not (pt_val (pe_df D__law_dots_right hr (by decide) (by rfl) (pa_cons (pv 5) (pa_cons (pv 6) (pa_cons (pv 14) (pa_cons (pv 7) (pa_cons (pe_cmpR (op_eqD hr.units) (pe_df D_written hr (by decide) (by rfl) (pa_cons (pv 5) pa_nil)) (pe_tup pa_nil) (nomark _)) pa_nil)))))))) (pss_one (ps_ret pe_bl)) pss_nil)
  (pss_cons (ps_if (PW.pt (pw_or (pt_not (pt_val (pe_df D__law_stand_alone hr (by decide) (by rfl) (pa_cons (pv 10) (pa_cons (pe_df D__law_each hr (by decide) (by rfl) (pa_cons (pv 9) (pa_cons pe_int (pa_cons (pv 7) pa_nil)))) pa_nil))))) (pw_or1 (pt_not (pt_val (pe_df D__law_stand_alone hr (by decide) (by rfl) (pa_cons (pv 11) (pa_cons (pe_df D__law_each hr (by decide) (by rfl) (pa_cons (pv 9) (pa_cons (pe_un un_neg pe_int) (pa_cons (pv 7) pa_nil)))) pa_nil)))))))) (pss_one (ps_ret pe_bl)) pss_nil)
  (pss_one (ps_ret (pe_and (pe_cmpR (op_eqD hr.units) (pv 5) (pv 9) (nomark _)) (pe_one (pe_cmpR (op_eqD hr.units) (pe_df D_turned hr (by decide) (by rfl) (pa_cons (pv 5) (pa_cons (pv 7) pa_nil))) (pe_df D__law_each hr (by decide) (by rfl) (pa_cons (pv 9) (pa_cons pe_int (pa_cons (pv 7) pa_nil)))) (nomark _))))))))))))))))))))))), ?_⟩
    have bsm : ∀ z : Int, 0 ≤ z → z ≤ 300 → Bd 8000 z := fun z z0 z1 => Bd.mono (a := 9) (by unfold Bd; show z.natAbs < 512; omega) (by decide)
    have mP := rPlace_mono
    have mT := rTurn_mono
    -- n
    refine ⟨_, rfl, u, 60, 0, rfl, hu, by omega, by decide, bsm _ (by decide) (by decide), fun o1 r1 ho1 h10 h11 => ?_⟩
    refine ⟨_, _, rfl, rfl, by show 6 ≤ sizeLine; decide, fun l1 nl1 => ?_⟩
    obtain ⟨ns, hns⟩ : ∃ ns : List Int, ns = [1 + r1, 12, 30, 60, 84, 210] := ⟨_, rfl⟩
    have hns1 : ∀ z ∈ ns, 0 < z ∧ z ≤ 300 := by
      rw [hns]
      intro z hz
      simp only [List.mem_cons, List.not_mem_nil, or_false] at hz
      omega
    have e0 : ([V.int (1 + r1), .int 12, .int 30, .int 60, .int 84, .int 210] : List V) = ns.map V.int := by
      rw [hns]
      rfl
    have hnl : ns.length = 6 := by
      rw [hns]
      rfl
    have hU1 : UrnAt (upd H u o1) u 1 := .put ho1
    have sl1 := same_upd (o := .lst [V.int (1 + r1), .int 12, .int 30, .int 60, .int 84, .int 210]) nl1
    have hl1u : l1 ≠ u := by
      obtain ⟨ys, hy⟩ := hU1.lst
      exact (ne_of_none hy nl1).symm
    refine ⟨_, rfl, u, 6, 1, rfl, hU1.same sl1, by omega, by decide, bsm _ (by decide) (by decide), fun o2 r2 ho2 h20 h21 => ?_⟩
    have hrn : r2.toNat < ns.length := by omega
    obtain ⟨g1, g2⟩ := hns1 _ (List.getElem_mem hrn)
    refine ⟨l1, _, r2, .int ns[r2.toNat], rfl, rfl, SqL_of ?_, atI_pos h20 (by rw [List.getElem?_map, List.getElem?_eq_getElem hrn]; rfl), ?_⟩
    · rw [← e0, upd_ne hl1u]
      exact upd_same
    obtain ⟨n, hn⟩ : ∃ n : Nat, ns[r2.toNat] = (n : Int) := ⟨ns[r2.toNat].toNat, by omega⟩
    rw [hn] at g1 g2 ⊢
    have hn0 : 0 < n := by omega
    have hn3 : n ≤ 300 := by omega
    have hU2 : UrnAt (upd (upd (upd H u o1) l1 (.lst [V.int (1 + r1), .int 12, .int 30, .int 60, .int 84, .int 210])) u o2) u 2 := .put ho2
    have sU2 : SU u H (upd (upd (upd H u o1) l1 (.lst [V.int (1 + r1), .int 12, .int 30, .int 60, .int 84, .int 210])) u o2) := (SU.upd.trans (SU.of sl1)).trans SU.upd
    generalize upd (upd (upd H u o1) l1 (.lst [V.int (1 + r1), .int 12, .int 30, .int 60, .int 84, .int 210])) u o2 = H2 at hU2 sU2
    -- rows, more, others
    refine ⟨_, rfl, _, rfl, u, n, _, rfl, hU2, by omega, hn0, hn3, fun H3 v3 rows sU3 hU3 N3 hok => ?_⟩
    refine ⟨_, rfl, u, _, rfl, hU3, by omega, fun H4 v4 more sU4 hU4 rmore imore bmore => ⟨_, _, rfl, ?_⟩⟩
    have N4 := N3.su rRow_tm hU2.ne hU3 sU4
    refine ⟨_, rfl, _, rfl, _, rfl, u, n, _, v3, rows, rfl, hU4, by omega, N4.list, ?_, hok, hn0, hn3, fun H5 v5 others sU5 hU5 N5 hok2 => ?_⟩
    · obtain ⟨a, xs, rfl, ha, _⟩ := N4
      intro z
      cases z
      exact hU2.ne ha
    have N4b := N4.su rRow_tm hU2.ne hU4 sU5
    have rmore5 := rTurn_tm.go (SU.tup hU4 sU5) rmore
    -- where, other
    refine ⟨_, rfl, _, rfl, _, rfl, v3, v4, rows, more, n, rfl, N4b.list, hok, hn0, hn3, rmore5, bmore, fun H6 v6 s6 N6 => ?_⟩
    refine ⟨_, rfl, _, rfl, _, rfl, v5, v4, others, more, n, rfl, (rList_mono rRow_tm.mono).go s6 N5.list, hok2, hn0, hn3, mT.go s6 rmore5, bmore, fun H7 v7 s7 N7 => ⟨_, _, rfl, ?_⟩⟩
    have hU7 := hU5.same (s6.trans s7)
    have N4c := (N4b.same rRow_tm s6).same rRow_tm s7
    have N5c := (N5.same rRow_tm s6).same rRow_tm s7
    have rmore7 := mT.go (s6.trans s7) rmore5
    -- one, two
    refine ⟨_, rfl, _, rfl, u, n, _, rfl, hU7, by omega, by omega, bsm _ (by omega) (by omega), fun o8 r8 ho8 h80 h81 => ?_⟩
    refine ⟨_, rfl, r8, n, rfl, by omega, (bd9 hn3).mono (by decide), fun H8 v8 s8 rt8 => ?_⟩
    have hU8 : UrnAt H8 u 54 := UrnAt.same s8 (.put (ho8))
    have sU8 : SU u H7 H8 := SU.upd.trans (SU.of s8)
    refine ⟨_, rfl, u, _, rfl, hU8, by omega, fun H9 v9 t9 sU9 hU9 rt9 it9 bt9 => ?_⟩
    refine ⟨by show 2 ≤ sizeLine; decide, fun l9 nl9 => ?_⟩
    have sl9 := same_upd (o := .lst [v8, v9]) nl9
    have hl9u : l9 ≠ u := by
      obtain ⟨ys, hy⟩ := hU9.lst
      exact (ne_of_none hy nl9).symm
    refine ⟨_, rfl, u, 2, _, rfl, hU9.same sl9, by omega, by decide, bsm _ (by decide) (by decide), fun o10 r10 ho10 h100 h101 => ?_⟩
    have hU10 : UrnAt (upd (upd H9 l9 (.lst [v8, v9])) u o10) u 58 := .put ho10
    have sU10 : SU u H9 (upd (upd H9 l9 (.lst [v8, v9])) u o10) := (SU.of sl9).trans SU.upd
    have hl10 : upd (upd H9 l9 (.lst [v8, v9])) u o10 l9 = some (.lst [v8, v9]) := by
      rw [upd_ne hl9u]
      exact upd_same
    generalize upd (upd H9 l9 (.lst [v8, v9])) u o10 = H10 at hU10 sU10 hl10
    obtain ⟨v10, one, hv10, rt10, it10, bt10⟩ : ∃ v one, [v8, v9][r10.toNat]? = some v ∧ rTurn H10 v one ∧ IsTurn one ∧ TOk 84 one := by
      rcases (show r10 = 0 ∨ r10 = 1 by omega) with e | e
      · rw [e]
        refine ⟨v8, _, rfl, rTurn_tm.go ((SU.tup hU8 sU9).trans (SU.tup hU9 sU10)) rt8, isTurn_fracOf (Int.emod_nonneg _ (by omega)) (Int.emod_lt_of_pos _ (by omega)), (lawLeft_ok (by omega) (bd9 hn3)).mono (by decide)⟩
      · rw [e]
        exact ⟨v9, t9, rfl, rTurn_tm.go (SU.tup hU9 sU10) rt9, it9, bt9⟩
    refine ⟨l9, _, r10, v10, rfl, rfl, SqL_of hl10, atI_pos h100 hv10, ?_⟩
    refine ⟨_, rfl, u, _, rfl, hU10, by omega, fun H11 v11 two sU11 hU11 rt11 it11 bt11 => ⟨_, _, rfl, ?_⟩⟩
    have rt10b := rTurn_tm.go (SU.tup hU10 sU11) rt10
    have sU7 : SU u H7 H11 := ((sU8.trans sU9).trans sU10).trans sU11
    have N4d := N4c.su rRow_tm hU2.ne hU7 sU7
    have N5d := N5c.su rRow_tm hU4.ne hU7 sU7
    have N6d := (N6.same s7).su hU5.ne hU7 sU7
    have N7d := N7.su (hU5.same s6).ne hU7 sU7
    have rmore11 := rTurn_tm.go (SU.tup hU7 sU7) rmore7
    -- shot
    refine ⟨_, rfl, _, rfl, _, rfl, v3, v4, rows, more, n, rfl, N4d.list, hok, hn0, hn3, rmore11, bmore, fun H12 v12 s12 N12 => ?_⟩
    have hU12 := hU11.same s12
    have W12 := N6d.same s12
    have O12 := mT.go s12 rt10b
    have S12 := N12
    have it01 : IsTurn ((0 : Int), (1 : Int)) := ⟨by decide, by decide, by decide, by decide⟩
    have bt01 : TOk 84 ((0 : Int), (1 : Int)) := ⟨by decide, by unfold Bd; decide, by unfold Bd; decide⟩
    have R0 := hall n rows others more one two (0, 1) hn0 hn3 hok hok2 imore bmore it10 bt10 it11 bt11 it01 (bt01.mono (by decide))
    have pb := place_b hn0 hn3 hok bmore
    have pb2 := place_b hn0 hn3 hok2 bmore
    have pb35 : PlB 350 (placeIn rows n more) := pb.mono (by decide)
    have okp : okP (placeIn rows n more) := okP_of R0.kp.1
    have ok1 : OkT one := ⟨it10, bt10.mono (by decide)⟩
    have ok2 : OkT two := ⟨it11, bt11.mono (by decide)⟩
    generalize hpp : placeIn rows n more = p at R0 pb pb35 okp N6d N12 W12 S12
    generalize hoo : placeIn others n more = o at R0 pb2 N7d
    -- told, glass
    refine ⟨_, rfl, _, rfl, _, _, p, one, rfl, (N6d.same s12).place, mT.go s12 rt10b, R0.kp.1, R0.kp.2, it10, ok1.w, fun H13 v13 s13 N13 => ?_⟩
    refine ⟨_, rfl, _, rfl, _, _, p, one, rfl, ((N6d.same s12).same s13).place, mT.go s13 (mT.go s12 rt10b), R0.kp.1, R0.kp.2, it10, ok1.w, fun H14 v14 s14 N14 => ⟨_, _, rfl, ?_⟩⟩
    have a14 := (s12.trans s13).trans s14
    have B : Bun u 61  H2 H4 H5 H6 H11 H12 H13 v3 v5 v6 v7 v12 v13 v14 v10 v11 rows others p o (turnedIn p one) (mirroredIn p one) one two H14 :=
      ⟨hU11.same a14, N4d.same rRow_tm a14, N5d.same rRow_tm a14, N6d.same a14, N7d.same a14, N12.same (s13.trans s14), (NewPl2.new N13).same s14, N14, mT.go a14 rt10b, mT.go a14 rt11⟩
    have put : ∀ {Hx : Hp} {c0 c : Nat} {o1 : HO}, Bun u c0 H2 H4 H5 H6 H11 H12 H13 v3 v5 v6 v7 v12 v13 v14 v10 v11 rows others p o (turnedIn p one) (mirroredIn p one) one two Hx → UrnO o1 c → Bun u c H2 H4 H5 H6 H11 H12 H13 v3 v5 v6 v7 v12 v13 v14 v10 v11 rows others p o (turnedIn p one) (mirroredIn p one) one two (upd Hx u o1) :=
      fun b ho => b.put hU2.ne hU4.ne hU5.ne (hU5.same s6).ne hU11.ne (hU11.same s12).ne (hU11.same (s12.trans s13)).ne ho
    have sU14 : SU u H H14 := ((((((sU2.trans sU3).trans sU4).trans sU5).trans (SU.of (s6.trans s7))).trans sU7)).trans (SU.of a14)
    have sU12 : SU u H12 H14 := SU.of (s13.trans s14)
    have sUH12 : SU u H H12 := ((((((sU2.trans sU3).trans sU4).trans sU5).trans (SU.of (s6.trans s7))).trans sU7)).trans (SU.of s12)
    have bt296 : TOk 296 ((0 : Int), (1 : Int)) := bt01.mono (by decide)
    clear N4 N4b N4c N4d N5 N5c N5d N6 N6d N7 N7d N12 N13 N14 rmore rmore5 rmore7 rmore11 rt10 rt10b rt9 rt8 hl10 hv10 sU10 sU9 sU8 s8 sl9 N3
    -- told, glass are due
    show tSeq _ _ _ [some (.ref u), some (.int (n : Int)), some v3, some v4, some v5, some v6, some v7, some v10, some v11, some v12, some v13, some v14, none, none, none] _
    refine ⟨_, rfl, _, rfl, _, rfl, v6, v10, p, one, 1, rfl, B.whr.place, B.one, pb35, ok1.2, fun H15 v15 s15 N15 => ?_⟩
    have B15 := B.same s15
    refine cmp_ne fa_pl (by decide) (dp_pl B15.tld.place) (dp_pl N15.place) (okP_tu okp) (okP_each okp) ⟨_, rfl, ?_⟩
    rw [decide_eq_true R0.e1]
    refine iteF ?_
    refine ⟨_, rfl, _, rfl, _, rfl, _, rfl, v6, v10, p, one, -1, rfl, B15.whr.place, B15.one, pb35, ok1.2, fun H16 v16 s16 N16 => ?_⟩
    have B16 := B15.same s16
    refine cmp_ne fa_pl (by decide) (dp_pl B16.gls.place) (dp_pl N16.place) (okP_mi okp) (okP_each okp) ⟨_, rfl, ?_⟩
    rw [decide_eq_true R0.e2]
    refine iteF ?_
    refine ⟨_, rfl, _, rfl, cmp_ne fa_pl (by decide) (dp_pl B16.whr.place) (dp_pl B16.sht.place) okp okp ⟨_, rfl, ?_⟩⟩
    rw [decide_eq_true rfl]
    refine iteF ?_
    -- lists, by name
    obtain ⟨at13, xt13, lt13, e13, _, ht13, _⟩ := id B16.tld
    obtain ⟨at14, xt14, lt14, e14, _, ht14, _⟩ := id B16.gls
    subst e13 e14
    refine ⟨_, rfl, _, _, _, _, true, rfl, .ty _, .base (.lst ht13), kitT (by decide +kernel), true, rfl, iteF ?_⟩
    refine ⟨_, rfl, _, _, _, _, true, rfl, .ty _, .base (.lst ht14), kitT (by decide +kernel), true, rfl, iteF ?_⟩
    refine ⟨_, rfl, _, rfl, v6, v10, p, one, rfl, B16.whr.place, B16.one, R0.kp.1, R0.kp.2, it10, ok1.w, fun H17 v17 s17 N17 => ?_⟩
    have B17 := B16.same s17
    refine ⟨_, rfl, cmp_ne fa_pl (by decide) (dp_pl N17.place) (dp_pl B17.tld.place) (okP_tu okp) (okP_tu okp) ⟨_, rfl, ?_⟩⟩
    rw [decide_eq_true rfl]
    refine iteF ?_
    refine ⟨_, rfl, _, rfl, v6, v10, p, one, rfl, B17.whr.place, B17.one, R0.kp.1, R0.kp.2, it10, ok1.w, fun H18 v18 s18 N18 => ?_⟩
    have B18 := B17.same s18
    refine ⟨_, rfl, cmp_ne fa_pl (by decide) (dp_pl N18.place) (dp_pl B18.gls.place) (okP_mi okp) (okP_mi okp) ⟨_, rfl, ?_⟩⟩
    rw [decide_eq_true rfl]
    refine iteF ?_
    refine ⟨_, rfl, by show 2 ≤ sizeLine; decide, fun t0 nt0 => ?_⟩
    have st0 := same_upd (o := .tup [V.int 0, .int 1]) nt0
    refine ⟨v6, .ref t0, p, (0, 1), rfl, (B18.whr.same st0).place, ⟨t0, rfl, upd_same⟩, R0.kp.1, R0.kp.2, it01, bt01.mono (by decide), fun H19 v19 s19 N19 => ?_⟩
    have B19 := B18.same (st0.trans s19)
    refine ⟨_, rfl, cmp_ne fa_pl (by decide) (dp_pl N19.place) (dp_pl B19.whr.place) (okP_tu okp) okp ⟨_, rfl, ?_⟩⟩
    rw [decide_eq_true R0.e0]
    refine iteF ?_
    -- far
    have b10 : Bd 4 (10 : Int) := by
      unfold Bd
      decide
    have b45 : Bd 150 ((10 : Int) ^ (45 : Int).toNat) := by
      unfold Bd
      decide +kernel
    have b44 : Bd 150 ((10 : Int) ^ (44 : Int).toNat) := by
      unfold Bd
      decide +kernel
    have b89 : Bd 296 ((10 : Int) ^ (45 : Int).toNat * (10 : Int) ^ (44 : Int).toNat) := by
      unfold Bd
      decide +kernel
    have p89 : (0 : Int) < (10 : Int) ^ (45 : Int).toNat * (10 : Int) ^ (44 : Int).toNat := by decide +kernel
    have m89 : CMulW ((10 : Int) ^ (45 : Int).toNat) ((10 : Int) ^ (44 : Int).toNat) := b45.mulOk b44
    have hU19 := B19.ex
    refine ⟨_, rfl, _, _, rfl, rfl, b10.powOk, _, _, rfl, rfl, b10.powOk, _, _, rfl, rfl, m89, ?_⟩
    have sU19 : SU u H H19 := sU14.trans (SU.of (((((s15.trans s16).trans s17).trans s18).trans st0).trans s19))
    have sX19 : Same H14 H19 := ((((s15.trans s16).trans s17).trans s18).trans st0).trans s19
    clear s15 s16 s17 s18 st0 s19 N15 N16 N17 N18 N19 B15 B16 B17 B18
    refine ⟨u, _, _, rfl, hU19, by omega, p89, b89.mono (by decide), fun o20 r20 ho20 h200 h201 => ⟨_, _, rfl, rfl, ?_⟩⟩
    have B20 := put B19 ho20
    have sU20 : SU u H (upd H19 u o20) := sU19.trans SU.upd
    have sX20 : SU u H14 (upd H19 u o20) := (SU.of sX19).trans SU.upd
    generalize upd H19 u o20 = H20 at B20 sU20 sX20
    have bun : Bd 296 (1 + r20) := by
      have h2 : r20 < (10 : Int) ^ (45 : Int).toNat * (10 : Int) ^ (44 : Int).toNat := h201
      generalize (10 : Int) ^ (45 : Int).toNat * (10 : Int) ^ (44 : Int).toNat = m89v at h2 b89
      exact b89.le (by omega) (by omega)
    have h1r : 0 < 1 + r20 := by omega
    clear h201 p89 b89 m89 b45 b44
    show tSeq _ _ _ [some (.ref u), some (.int (n : Int)), some v3, some v4, some v5, some v6, some v7, some v10, some v11, some v12, some (.ref at13), some (.ref at14), some (.int (1 + r20)), none, none] _
    refine ⟨_, rfl, _, rfl, u, 1 + r20, _, rfl, B20.ex, by omega, by omega, bun.mono (by decide), fun o21 r21 ho21 h210 h211 => ⟨_, rfl, r21, 1 + r20, rfl, by omega, bun.mono (by decide), fun H21 v21 s21 rt21 => ?_⟩⟩
    have itf := isTurn_fracOf h210 h211
    have btf : TOk 296 (fracOf r21 (1 + r20)) := fracOf_ok (by omega) (bun.le h210 (by omega)) bun
    have B21 := (put B20 ho21).same s21
    have sU21 : SU u H H21 := (sU20.trans SU.upd).trans (SU.of s21)
    have sX21 : SU u H14 H21 := (sX20.trans SU.upd).trans (SU.of s21)
    clear B19 B20 sU19 sX19 sU20 sX20 s21 hU19
    generalize fracOf r21 (1 + r20) = far at rt21 itf btf
    show tSeq _ _ _ [some (.ref u), some (.int (n : Int)), some v3, some v4, some v5, some v6, some v7, some v10, some v11, some v12, some (.ref at13), some (.ref at14), some (.int (1 + r20)), some v21, none] _
    have R := hall n rows others more one two far hn0 hn3 hok hok2 imore bmore it10 bt10 it11 bt11 itf btf
    rw [hpp, hoo] at R
    have bf35 : TOk 350 far := btf.mono (by decide)
    refine ⟨_, rfl, _, rfl, v6, v21, p, far, rfl, B21.whr.place, rt21, R.kp.1, R.kp.2, itf, btf.mono (by decide), fun H22 v22 s22 N22 => ?_⟩
    have B22 := B21.same s22
    refine ⟨_, rfl, _, rfl, v6, v21, p, far, 1, rfl, B22.whr.place, mT.go s22 rt21, pb35, bf35, fun H23 v23 s23 N23 => ?_⟩
    have B23 := B22.same s23
    refine cmp_ne fa_pl (by decide) (dp_pl (N22.same s23).place) (dp_pl N23.place) (okP_tu okp) (okP_each okp) ⟨_, rfl, ?_⟩
    rw [decide_eq_true R.e3]
    refine iteF ?_
    have rt23 := mT.go (s22.trans s23) rt21
    refine ⟨_, rfl, _, rfl, v6, v21, p, far, rfl, B23.whr.place, rt23, R.kp.1, R.kp.2, itf, btf.mono (by decide), fun H24 v24 s24 N24 => ?_⟩
    have B24 := B23.same s24
    refine ⟨_, rfl, _, rfl, _, rfl, v6, v21, p, far, -1, rfl, B24.whr.place, mT.go s24 rt23, pb35, bf35, fun H25 v25 s25 N25 => ?_⟩
    have B25 := B24.same s25
    refine cmp_ne fa_pl (by decide) (dp_pl (N24.same s25).place) (dp_pl N25.place) (okP_mi okp) (okP_each okp) ⟨_, rfl, ?_⟩
    rw [decide_eq_true R.e4]
    refine iteF ?_
    -- alike
    refine ⟨_, rfl, _, rfl, v3, rows, n, rfl, B25.rows.list, hok, hn0, hn3, fun H26 v26 s26 D26 => ?_⟩
    have B26 := B25.same s26
    refine ⟨_, rfl, _, rfl, v5, others, n, rfl, B26.othr.list, hok2, hn0, hn3, fun H27 v27 s27 D27 => ?_⟩
    have B27 := B26.same s27
    have mD : Mono (rList (rList rInt)) := rList_mono (rList_mono rInt_mono)
    refine cmp_eq fa_dot (by decide) (dp_dot (mD.go s27 D26)) (dp_dot D27) (fun _ _ _ _ => trivial) (fun _ _ _ _ => trivial) ?_
    -- the group
    refine ⟨_, rfl, _, rfl, _, rfl, v6, v10, v11, p, one, two, rfl, B27.whr.place, B27.one, B27.two, R.g, fun H28 s28 => ?_⟩
    have B28 := B27.same s28
    refine ⟨true, rfl, iteF ?_⟩
    have wok : WrOk p := R.d.wp
    refine ⟨_, rfl, v6, p, rfl, B28.whr.place, R.kp.1, wok, fun H29 v29 s29 W29 => ?_⟩
    have B29 := B28.same s29
    refine ⟨Nat.zero_le _, fun t29 nt29 => ?_⟩
    have st29 := same_upd (o := .tup []) nt29
    have B30 := B29.same st29
    refine cmp_eq fa_wr (by decide) (dp_wr ((rTupL_tm rWrow_tm).mono.go st29 W29)) (dp_wr (l := []) ⟨t29, [], rfl, upd_same, .nil⟩) (writtenIn_ok wok) (fun _ h => nomatch h) ?_
    refine ⟨_, rfl, _, rfl, v3, rows, n, rfl, B30.rows.list, hok, hn0, hn3, fun H31 v31 s31 D31 => ?_⟩
    have B31 := B30.same s31
    refine ⟨Nat.zero_le _, fun l32 nl32 => ?_⟩
    have sl32 := same_upd (o := .lst []) nl32
    have B32 := B31.same sl32
    refine ⟨_, rfl, .ref l32, [], n, rfl, ⟨l32, [], rfl, upd_same, .nil⟩, ⟨Nat.zero_le _, (fun _ h => nomatch h), fun _ => Nat.zero_le 3⟩, hn0, hn3, fun H33 v33 s33 D33 => ?_⟩
    have B33 := B32.same s33
    refine cmp_eq fa_dot (by decide) (dp_dot (mD.go (sl32.trans s33) D31)) (dp_dot D33) (fun _ _ _ _ => trivial) (fun _ _ _ _ => trivial) ⟨rfl, _, rfl, ?_⟩
    rw [decide_eq_true (congrArg V.bl R.wz)]
    refine iteF ?_
    -- the dots
    refine ⟨_, rfl, _, rfl, _, rfl, _, rfl, _, rfl, v6, p, rfl, B33.whr.place, R.kp.1, wok, fun H34 v34 s34 W34 => ?_⟩
    have B34 := B33.same s34
    refine ⟨Nat.zero_le _, fun t35 nt35 => ?_⟩
    have st35 := same_upd (o := .tup []) nt35
    have B35 := B34.same st35
    refine cmp_eq fa_wr (by decide) (dp_wr ((rTupL_tm rWrow_tm).mono.go st35 W34)) (dp_wr (l := []) ⟨t35, [], rfl, upd_same, .nil⟩) (writtenIn_ok wok) (fun _ h => nomatch h) ?_
    refine ⟨v6, v7, v10, p, o, one, _, _, rfl, B35.whr.place, B35.oth.place, B35.one, R.d, fun H36 s36 => ?_⟩
    have B36 := B35.same s36
    refine ⟨true, rfl, iteF ?_⟩
    have sX36 : SU u H12 H36 := sU12.trans (sX21.trans (SU.of (((((((((((((s22.trans s23).trans s24).trans s25).trans s26).trans s27).trans s28).trans s29).trans st29).trans s31).trans sl32).trans s33).trans s34).trans st35 |>.trans s36)))
    have sU36 : SU u H H36 := sUH12.trans sX36
    clear s22 s23 s24 s25 s26 s27 s28 s29 st29 s31 sl32 s33 s34 st35 s36 B21 B22 B23 B24 B25 B26 B27 B28 B29 B30 B31 B32 B33 B34 B35 sX21 sU21 sU14 sU12 N22 N23 N24 N25 D26 D27 D31 D33 W29 W34
    -- the lists stand alone
    obtain ⟨a13, x13, l13, e13, h013, ha13, hrow13, hal13, hex13⟩ := B36.tld
    obtain ⟨a14, x14, l14, e14, h014, ha14, hrow14, hal14⟩ := B36.gls
    cases e13
    cases e14
    refine ⟨_, rfl, _, rfl, _, rfl, v12, v10, p, one, 1, rfl, B36.sht.place, B36.one, pb35, ok1.2, fun H40 v40 s40 N40 => ?_⟩
    rw [← R.e1] at N40
    refine ⟨at13, x13, l13, turnedIn p one, v40, H12, H36, rfl, s40 _ _ ha13, hrow13.keep (.of s40) (fun l _ ys h => s40 _ _ h), hal13, fun l hl z => ?_, N40, okP_tu okp, R.g.t1.1.1, fun x hx => (R.g.t1.1.2.1 x hx).2.2.1, fun H41 sb => ⟨true, rfl, iteF ?_⟩⟩
    · obtain ⟨ys, hy⟩ := (hrow13.there l hl).2
      rw [z] at hy
      cases hy
    have sX41 : SU u H12 H41 := fun b ob hb e => sb b ob (fun z => by rw [(hrow13.there b z).1] at e; cases e) ((sX36.trans (SU.of s40)) b ob hb e)
    have ts41 : TSame H36 H41 := fun b ys h => sb b _ (fun z => by
      obtain ⟨zs, hz⟩ := (hrow13.there b z).2
      rw [h] at hz
      cases hz) (s40 _ _ h)
    have nin14 : ∀ l ∈ l14, l ∉ l13 := fun l hl z => hex13 l z (hrow14.there l hl).1
    have ha14' : H41 at14 = some (.lst x14) := sb _ _ (fun z => hex13 _ z h014) (s40 _ _ ha14)
    have hrow14' : RowsAt H13 H41 x14 (mirroredIn p one) l14 := hrow14.keep ts41 fun l hl ys h => sb _ _ (nin14 l hl) (s40 _ _ h)
    have hU12' := hU12
    have S41 := S12.su hU11.ne hU12 sX41
    have O41 := rTurn_tm.go (SU.tup hU12 sX41) O12
    refine ⟨_, rfl, _, rfl, _, rfl, _, rfl, v12, v10, p, one, -1, rfl, S41.place, O41, pb35, ok1.2, fun H42 v42 s42 N42 => ?_⟩
    rw [← R.e2] at N42
    refine ⟨at14, x14, l14, mirroredIn p one, v42, H13, H41, rfl, s42 _ _ ha14', hrow14'.keep (.of s42) (fun l _ ys h => s42 _ _ h), hal14, fun l hl z => ?_, N42, okP_mi okp, R.g.m1.1.1, fun x hx => (R.g.m1.1.2.1 x hx).2.2.1, fun H43 sb2 => ⟨true, rfl, iteF ?_⟩⟩
    · obtain ⟨ys, hy⟩ := (hrow14'.there l hl).2
      rw [z] at hy
      cases hy
    have sX43 : SU u H12 H43 := fun b ob hb e => sb2 b ob (fun z => by
      have := s13 _ _ e
      rw [(hrow14.there b z).1] at this
      cases this) ((sX41.trans (SU.of s42)) b ob hb e)
    have S43 := S12.su hU11.ne hU12 sX43
    have W43 := W12.su hU5.ne hU12 sX43
    have O43 := rTurn_tm.go (SU.tup hU12 sX43) O12
    -- what is passed stays
    refine ⟨_, rfl, _, rfl, cmp_eq fa_pl (by decide) (dp_pl W43.place) (dp_pl S43.place) okp okp ⟨_, rfl, ?_⟩⟩
    rw [decide_eq_true rfl]
    refine iteT ?_
    refine ⟨_, rfl, _, rfl, v6, v10, p, one, rfl, W43.place, O43, R.kp.1, R.kp.2, it10, ok1.w, fun H44 v44 s44 N44 => ?_⟩
    refine ⟨_, rfl, _, rfl, v12, v10, p, one, 1, rfl, (S43.same s44).place, mT.go s44 O43, pb35, ok1.2, fun H45 v45 s45 N45 => ?_⟩
    refine cmp_eq fa_pl (by decide) (dp_pl (N44.same s45).place) (dp_pl N45.place) (okP_tu okp) (okP_each okp) ?_
    rw [decide_eq_true R.e1]
    exact q _ ((sUH12.trans sX43).trans (SU.of (s44.trans s45)))
end
end K31

set_option Elab.async false
set_option linter.all false
set_option maxRecDepth 100000
set_option maxHeartbeats 2000000
set_option pp.maxSteps 400
namespace K31
open PySem PySem.Spec PyProof.Rows L2
theorem SqL.same {K : PySem.W.Frag} {H H' : Hp} {a : Addr} {xs : List V} (h : SqL K H a xs) (s : Same H H') : SqL K H' a xs := by
  rcases h with h | h
  · left
    rcases h with h | ⟨n, h⟩
    · exact .inl (s _ _ h)
    · exact .inr ⟨n, s _ _ h⟩
  · exact .inr h
section
variable {P : Program} {w : World} {K : PySem.W.Frag} {mg : Str → Option Value} {base : Heap}
def sp_law (K : PySem.W.Frag) : Sp := fun vs H Q _ => ∃ (a : Addr) (ns : List Int), vs = [.ref a] ∧ SqL K H a (ns.map V.int) ∧ ns.length ≤ 63 ∧ ∀ H', Q (.bl true) H'
theorem ok_of {x : Str} {st : Stmt} {N ps : List Str} {k : Nat} {sp : Sp} {f : Addr} {fd : FuncData} (F : FunD K x x (defArgs st) (defBody st) (defScope st) [] [] f fd) (S : FnScope N ps (defScope st))
    (len : ∀ vs H Q E, sp vs H Q E → vs.length = ps.length)
    (body : ∀ (f : Addr) (cdv : Value) (A : Around) (outer : List Env) (s : Shared) (H : Hp) (vs : List V) (Q : VK) (E : XK), Room k (A.deeper (envOfC x (defScope st) s.heap.objs.size f cdv)) → sp vs H Q E →
      ∃ t, PSs (cxOf CX0 P w K mg base N x (defScope st) f cdv A outer s H E).nox (defBody st) t ∧ t { nx := fun _ H' => Q .non H', rt := Q } (start N vs) H) : FnOk P w K mg base CX0 (k + 1) f fd ps sp := by
  refine F.ok S len fun cdv A outer s H vs Q E hr h => ?_
  obtain ⟨t, h1, h2⟩ := body f cdv A outer s H vs Q E hr h
  exact ⟨t, h1.nox, h2⟩
theorem fn_law (T : Txt K mg) (hall : RightAll) {f0 : Addr} {fd : FuncData} (F : FunD K "law" "law" (defArgs s_law) (defBody s_law) (defScope s_law) [] [] f0 fd) : FnOk P w K mg base CX0 12 f0 fd ["_law_script"] (sp_law K) := by
  have D__law_right := df__law_right (P := P) (w := w) (base := base) T hall
  have D__law_urn := df__law_urn (P := P) (w := w) (base := base) T
  refine ok_of F sc_law (fun vs H Q E h => ?_) (fun f cdv A outer s H vs Q E hr h => ?_)
  · obtain ⟨_, _, rfl, _⟩ := h
    rfl
  · obtain ⟨a, ns, rfl, ha, hn, q⟩ := h
    refine ⟨_, (pss_cons (ps_for PassesOwn.never rfl (pi_range1 (by rfl) T.z_range (pa_cons (pe_callB (call_max2 rfl) (by rfl) T.z_max bt_max (pa_cons pe_int (pa_cons (pe_callB (call_min2 rfl) (by rfl) T.z_min bt_min (pa_cons pe_int (pa_cons (pe_callB call_len_seq (by rfl) T.z_len bt_len (pa_cons (pv 0) pa_nil)) pa_nil))) pa_nil))) pa_nil)) (pg_name (i := 1) sc_law.nd rfl (.inl rfl))
  (pss_one (ps_if (pt_not (pt_val (pe_df D__law_right hr (by decide) (by rfl) (pa_cons (pe_df D__law_urn hr (by decide) (by rfl) (pa_cons (pv 0) (pa_cons (pv 1) pa_nil))) pa_nil)))) (pss_one (ps_ret pe_bl)) pss_nil)))
  (pss_one (ps_ret pe_bl))), ?_⟩
    refine ⟨_, rfl, a, _, rfl, .inl ha, 4, ((ns.map V.int).length : Int), rfl, 1, _, rfl, ?_⟩
    have hb : ∀ z : Int, (if (if z < 4 then z else 4) > 1 then (if z < 4 then z else 4) else 1) ≤ 4 ∧ 1 ≤ (if (if z < 4 then z else 4) > 1 then (if z < 4 then z else 4) else 1) := fun z => by
      split <;> split <;> omega
    have hb4 := hb ((ns.map V.int).length : Int)
    generalize (if (if ((ns.map V.int).length : Int) < 4 then ((ns.map V.int).length : Int) else 4) > 1 then (if ((ns.map V.int).length : Int) < 4 then ((ns.map V.int).length : Int) else 4) else 1) = m at hb4 ⊢
    refine ⟨m, rfl, by omega, ?_, for_it (walk_range (n := m.toNat)) (fun i σ H' => ∃ y1, σ = [some (.ref a), y1] ∧ Same H H') ⟨none, rfl, Same.refl _⟩ (fun _ _ _ _ _ => trivial) (fun i x σ H1 H1' hi h hy => ?_) (fun σ H1 h => ?_)⟩
    · have : (2 : Int) ^ 62 = 4611686018427387904 := by decide
      omega
    · obtain ⟨y1, rfl, s1⟩ := h
      obtain ⟨rfl, hxv⟩ := hy
      obtain rfl : x = .int (i : Int) := by
        rw [hxv]
        show V.int (0 + (i : Int)) = V.int (i : Int)
        rw [Int.zero_add]
      refine ⟨_, rfl, _, rfl, a, ns, i, rfl, SqL.same ha s1, by omega, fun H2 u s2 nu hU => ⟨u, rfl, hU, fun H3 sU => ⟨true, rfl, iteF ⟨_, rfl, fun b o e => ?_⟩⟩⟩⟩
      have e1 := s1 _ _ e
      refine sU b o (fun z => ?_) (s2 _ _ e1)
      rw [z, nu] at e1
      cases e1
    · exact q _
end
end K31

set_option Elab.async false
set_option linter.all false
set_option maxRecDepth 100000
set_option maxHeartbeats 1000000
namespace K31
open PySem PySem.Spec PyProof.Rows L2
/-! ### turns as parts of one bottom -/
theorem fracOf_scale {k x b : Int} (hk : 0 < k) : fracOf (k * x) (k * b) = fracOf x b := by
  unfold fracOf
  rw [Int.gcd_mul_left]
  have e : ((k.natAbs * Int.gcd x b : Nat) : Int) = k * (Int.gcd x b : Int) := by
    rw [Int.natCast_mul]
    rw [show ((k.natAbs : Nat) : Int) = k by omega]
  rw [e, Int.mul_ediv_mul_of_pos _ _ hk, Int.mul_ediv_mul_of_pos _ _ hk]
theorem fracOf_eq {a b c d : Int} (hb : 0 < b) (hd : 0 < d) (h : a * d = c * b) : fracOf a b = fracOf c d := by
  rw [← fracOf_scale (x := a) (b := b) hd, ← fracOf_scale (x := c) (b := d) hb]
  rw [show d * a = b * c by rw [Int.mul_comm d a, h, Int.mul_comm], Int.mul_comm d b]
theorem between0 {t X Y Z : Int} (h : X - Y = t * Z) (x0 : 0 ≤ X) (x1 : X < Z) (y0 : 0 ≤ Y) (y1 : Y < Z) : X = Y := by
  have ht : t = 0 := by
    rcases Int.lt_trichotomy t 0 with h1 | h1 | h1
    · have : t * Z ≤ (-1) * Z := Int.mul_le_mul_of_nonneg_right (by omega) (by omega)
      omega
    · exact h1
    · have : 1 * Z ≤ t * Z := Int.mul_le_mul_of_nonneg_right (by omega) (by omega)
      omega
  rw [ht] at h
  omega
theorem lawLeft_eq {a b c d : Int} (q : Int) (hb : 0 < b) (hd : 0 < d) (h : a * d - c * b = q * (b * d)) : lawLeft a b = lawLeft c d := by
  unfold lawLeft
  refine fracOf_eq hb hd ?_
  have ea := Int.mul_ediv_add_emod a b
  have ec := Int.mul_ediv_add_emod c d
  have a0 := Int.emod_nonneg a (show b ≠ 0 by omega)
  have a1 := Int.emod_lt_of_pos a hb
  have c0 := Int.emod_nonneg c (show d ≠ 0 by omega)
  have c1 := Int.emod_lt_of_pos c hd
  refine between0 (t := q - a / b + c / d) (Z := b * d) ?_ (Int.mul_nonneg a0 (by omega)) (Int.mul_lt_mul_of_pos_right a1 hd) (Int.mul_nonneg c0 (by omega)) ?_
  · generalize a % b = A at *
    generalize a / b = qa at *
    generalize c % d = C at *
    generalize c / d = qc at *
    subst ea ec
    grind
  · rw [Int.mul_comm]
    exact Int.mul_lt_mul_of_pos_left c1 hb
theorem turnLeft_frac {a b : Int} (hb : 0 < b) : turnLeft (fracOf a b) = lawLeft a b := by
  have hg := gcd_pos (a := a) hb
  have e1 : Int.gcd (a % b) b = Int.gcd a b := by rw [Int.gcd_comm, gcd_step a b (by omega)]
  unfold turnLeft lawLeft fracOf
  rw [e1]
  obtain ⟨x, hx⟩ := Int.gcd_dvd_left a b
  obtain ⟨y, hy⟩ := Int.gcd_dvd_right a b
  generalize (Int.gcd a b : Int) = g at *
  subst hx hy
  rw [Int.mul_emod_mul_of_pos _ _ hg, Int.mul_ediv_cancel_left _ (by omega), Int.mul_ediv_cancel_left _ (by omega), Int.mul_ediv_cancel_left _ (by omega)]
theorem turnSum_law {x y : Turn} (hx : 0 < x.2) (hy : 0 < y.2) : turnSum x y = lawSum x y := turnLeft_frac (Int.mul_pos hx hy)
theorem turnDiff_law {x y : Turn} (hx : 0 < x.2) (hy : 0 < y.2) : turnDiff x y = lawLeft (x.1 * y.2 - y.1 * x.2) (x.2 * y.2) := turnLeft_frac (Int.mul_pos hx hy)
/-- x is k parts of M, by whole turns -/
def Rep (M : Int) (x : Turn) (k : Int) : Prop := 0 < x.2 ∧ ∃ q, x.1 * M - k * x.2 = q * (x.2 * M)
abbrev Tk (M k : Int) : Turn := lawLeft k M
section
variable {M : Int}
theorem rep_T (hM : 0 < M) (k : Int) : Rep M (Tk M k) k := by
  have hg := gcd_pos (a := k % M) hM
  have ek := Int.mul_ediv_add_emod k M
  obtain ⟨x, hx⟩ := Int.gcd_dvd_left (k % M) M
  obtain ⟨y, hy⟩ := Int.gcd_dvd_right (k % M) M
  have e : Tk M k = (x, y) := by
    show fracOf (k % M) M = (x, y)
    unfold fracOf
    generalize hgg : (Int.gcd (k % M) M : Int) = g at *
    rw [show k % M / g = x by rw [hx, Int.mul_ediv_cancel_left _ (by omega)], show M / g = y by rw [hy, Int.mul_ediv_cancel_left _ (by omega)]]
  rw [e]
  generalize (Int.gcd (k % M) M : Int) = g at *
  have hy0 : 0 < y := by
    rcases Int.lt_trichotomy y 0 with h | h | h
    · have := Int.mul_neg_of_pos_of_neg hg h
      omega
    · rw [h] at hy
      omega
    · exact h
  refine ⟨hy0, -(k / M), ?_⟩
  show x * M - k * y = -(k / M) * (y * M)
  generalize k % M = r at *
  generalize k / M = qk at *
  subst hx
  grind
theorem rep_left {M : Int} (hM : 0 < M) {a b k : Int} (hb : 0 < b) (h : ∃ q, a * M - k * b = q * (b * M)) : lawLeft a b = Tk M k := by
  obtain ⟨q, h⟩ := h
  exact lawLeft_eq q hb hM h
theorem rep_sum {M : Int} (hM : 0 < M) {x y : Turn} {i j : Int} (hx : Rep M x i) (hy : Rep M y j) : lawSum x y = Tk M (i + j) := by
  obtain ⟨x0, q, hq⟩ := hx
  obtain ⟨y0, r, hr⟩ := hy
  refine rep_left hM (Int.mul_pos x0 y0) ⟨q + r, ?_⟩
  grind
theorem rep_diff {M : Int} (hM : 0 < M) {x y : Turn} {i j : Int} (hx : Rep M x i) (hy : Rep M y j) : turnDiff x y = Tk M (i - j) := by
  obtain ⟨x0, q, hq⟩ := hx
  obtain ⟨y0, r, hr⟩ := hy
  rw [turnDiff_law x0 y0]
  refine rep_left hM (Int.mul_pos x0 y0) ⟨q - r, ?_⟩
  grind
theorem rep_minus {M : Int} (hM : 0 < M) {x : Turn} {i : Int} (hx : Rep M x i) : lawMinus x = Tk M (-i) := by
  obtain ⟨x0, q, hq⟩ := hx
  refine rep_left hM x0 ⟨-q, ?_⟩
  grind
theorem rep_tsum {M : Int} (hM : 0 < M) {x y : Turn} {i j : Int} (hx : Rep M x i) (hy : Rep M y j) : turnSum x y = Tk M (i + j) := by
  rw [turnSum_law hx.1 hy.1]
  exact rep_sum hM hx hy
theorem isTurn_left {x : Turn} (h : IsTurn x) : lawLeft x.1 x.2 = x := by
  obtain ⟨h0, h1, h2, h3⟩ := h
  unfold lawLeft fracOf
  rw [Int.emod_eq_of_lt h1 h2, h3]
  show (x.1 / 1, x.2 / 1) = x
  rw [Int.ediv_one, Int.ediv_one]
theorem isTurn_T (hM : 0 < M) (k : Int) : IsTurn (Tk M k) := isTurn_fracOf (Int.emod_nonneg _ (by omega)) (Int.emod_lt_of_pos _ hM)
/-- a turn whose bottom is in M -/
theorem isTurn_rep {x : Turn} {d : Int} (h : IsTurn x) (hd : M = x.2 * d) (hM : 0 < M) : x = Tk M (x.1 * d) := by
  refine (isTurn_left h).symm.trans (rep_left hM h.1 ⟨0, ?_⟩)
  rw [hd]
  grind
theorem Tk_mod (hM : 0 < M) {i j : Int} (h : i % M = j % M) : Tk M i = Tk M j := by
  show fracOf (i % M) M = fracOf (j % M) M
  rw [h]
/-- worth: parts of M -/
def wt (M : Int) (x : Turn) : Int := x.1 * (M / x.2)
theorem wt_T (hM : 0 < M) (k : Int) : wt M (Tk M k) = k % M := by
  have hg := gcd_pos (a := k % M) hM
  obtain ⟨x, hx⟩ := Int.gcd_dvd_left (k % M) M
  obtain ⟨y, hy⟩ := Int.gcd_dvd_right (k % M) M
  have e : Tk M k = (x, y) := by
    show fracOf (k % M) M = (x, y)
    unfold fracOf
    generalize hgg : (Int.gcd (k % M) M : Int) = g at *
    rw [show k % M / g = x by rw [hx, Int.mul_ediv_cancel_left _ (by omega)], show M / g = y by rw [hy, Int.mul_ediv_cancel_left _ (by omega)]]
  rw [e]
  generalize (Int.gcd (k % M) M : Int) = g at *
  show x * (M / y) = k % M
  have hy0 : y ≠ 0 := fun h => by
    rw [h] at hy
    omega
  rw [show M / y = g by rw [hy, Int.mul_ediv_cancel _ hy0], hx, Int.mul_comm]
theorem Tk_inj (hM : 0 < M) {i j : Int} (h : Tk M i = Tk M j) : i % M = j % M := by
  rw [← wt_T hM i, ← wt_T hM j, h]
theorem Tk_zero (hM : 0 < M) : Tk M 0 = ((0 : Int), (1 : Int)) := by
  show fracOf (0 % M) M = _
  rw [Int.zero_emod]
  unfold fracOf
  rw [Int.zero_gcd, show ((M.natAbs : Nat) : Int) = M by omega, Int.zero_ediv, Int.ediv_self (by omega)]
end
end K31

set_option Elab.async false
set_option linter.all false
set_option maxRecDepth 100000
set_option maxHeartbeats 1000000
namespace K31
open PySem PySem.Spec PyProof.Rows L2
/-! ### order of turns -/
theorem dataLe_tot {β : Type} (k : β → PyData) : PySem.W.TotalLe (PySem.W.dataLe false k) := PySem.W.sortLe_total _ false _
theorem dvd_lcmI_left {a b : Int} : a ∣ lcmI a b := by
  unfold lcmI
  obtain ⟨x, hx⟩ := Int.gcd_dvd_left a b
  obtain ⟨y, hy⟩ := Int.gcd_dvd_right a b
  by_cases h : (Int.gcd a b : Int) = 0
  · rw [h, Int.zero_mul] at hx
    rw [h, Int.zero_mul] at hy
    rw [hx, hy]
    exact ⟨0, by simp⟩
  · generalize (Int.gcd a b : Int) = g at *
    refine ⟨y, ?_⟩
    rw [show a / g = x by rw [hx, Int.mul_ediv_cancel_left _ h]]
    subst hx hy
    grind
theorem dvd_lcmI_right {a b : Int} : b ∣ lcmI a b := ⟨a / (Int.gcd a b : Int), by unfold lcmI; rw [Int.mul_comm]⟩
theorem fold_lcm_dvd : ∀ (ns : List Int) (z : Int), z ∣ ns.foldl lcmI z ∧ ∀ n ∈ ns, n ∣ ns.foldl lcmI z
  | [], z => ⟨Int.dvd_refl z, fun _ h => nomatch h⟩
  | n :: ns, z => by
    obtain ⟨h1, h2⟩ := fold_lcm_dvd ns (lcmI z n)
    refine ⟨Int.dvd_trans dvd_lcmI_left h1, fun m hm => ?_⟩
    rcases List.mem_cons.mp hm with e | e
    · rw [e]
      exact Int.dvd_trans dvd_lcmI_right h1
    · exact h2 m e
theorem fold_lcm_pos : ∀ (ns : List Int) (z : Int), 0 < z → (∀ n ∈ ns, 0 < n) → 0 < ns.foldl lcmI z
  | [], z, h, _ => h
  | n :: ns, z, h, k => fold_lcm_pos ns (lcmI z n) (lcmI_pos h (k n List.mem_cons_self)) fun m hm => k m (List.mem_cons_of_mem _ hm)
section
variable {M : Int}
/-- turns at parts of M -/
def IsT (M : Int) (t : Turn) : Prop := ∃ k, t = Tk M k
theorem Tk_dvd (hM : 0 < M) (k : Int) : (Tk M k).2 ∣ M := by
  obtain ⟨y, hy⟩ := Int.gcd_dvd_right (k % M) M
  have hg := gcd_pos (a := k % M) hM
  show M / (Int.gcd (k % M) M : Int) ∣ M
  generalize (Int.gcd (k % M) M : Int) = g at *
  rw [show M / g = y by rw [hy, Int.mul_ediv_cancel_left _ (by omega)]]
  exact ⟨g, by rw [hy, Int.mul_comm]⟩
theorem at_wt {t : Turn} {L : Int} (hM : 0 < M) (h0 : 0 < t.2) (h1 : t.2 ∣ M) (h2 : t.2 ∣ L) : atB t L * M = wt M t * L := by
  obtain ⟨x, hx⟩ := h1
  obtain ⟨y, hy⟩ := h2
  unfold atB wt
  generalize t.2 = d at *
  rw [show M / d = x by rw [hx, Int.mul_ediv_cancel_left _ (by omega)], show L / d = y by rw [hy, Int.mul_ediv_cancel_left _ (by omega)]]
  subst hx hy
  grind
theorem pw_map {α β : Type} {R : β → β → Prop} {f : α → β} {l : List α} (h : (l.map f).Pairwise R) : l.Pairwise fun a b => R (f a) (f b) := List.pairwise_map.mp h
theorem inOrder_pw (hM : 0 < M) {ts : List Turn} (h : ∀ t ∈ ts, IsT M t) : (inOrder ts).Pairwise fun a b => wt M a ≤ wt M b := by
  have hb : ∀ n ∈ botts ts, 0 < n := fun n hn => by
    obtain ⟨t, ht, rfl⟩ := List.mem_map.mp hn
    obtain ⟨k, rfl⟩ := h t ht
    exact (isTurn_T hM k).1
  have hL : 0 < lcmAll (botts ts) := fold_lcm_pos _ _ (by decide) hb
  have hd : ∀ t ∈ ts, t.2 ∣ lcmAll (botts ts) := fun t ht => (fold_lcm_dvd (botts ts) 1).2 _ (List.mem_map_of_mem (f := Prod.snd) ht)
  unfold inOrder
  rw [List.pairwise_map]
  have tot := dataLe_tot dIT
  have pw : List.Pairwise (fun a b => PySem.W.dataLe false dIT a b = true) ((ts.map fun t => (atB t (lcmAll (botts ts)), t)).mergeSort (PySem.W.dataLe false dIT)) := List.pairwise_mergeSort tot.trans (fun a b => by rw [Bool.or_eq_true]; exact tot.total a b) _
  refine List.Pairwise.imp_of_mem (fun {a b} ha hbm hab => ?_) pw
  have hle := le_dIT hab
  obtain ⟨x, hx, rfl⟩ := List.mem_map.mp ((List.mergeSort_perm _ _).mem_iff.mp ha)
  obtain ⟨y, hy, rfl⟩ := List.mem_map.mp ((List.mergeSort_perm _ _).mem_iff.mp hbm)
  show wt M x ≤ wt M y
  have hle' : atB x (lcmAll (botts ts)) ≤ atB y (lcmAll (botts ts)) := hle
  obtain ⟨i, rfl⟩ := h x hx
  obtain ⟨j, rfl⟩ := h y hy
  have e1 := at_wt hM (isTurn_T hM i).1 (Tk_dvd hM i) (hd _ hx)
  have e2 := at_wt hM (isTurn_T hM j).1 (Tk_dvd hM j) (hd _ hy)
  have h3 : atB (Tk M i) (lcmAll (botts ts)) * M ≤ atB (Tk M j) (lcmAll (botts ts)) * M := Int.mul_le_mul_of_nonneg_right hle' (by omega)
  rw [e1, e2] at h3
  exact Int.le_of_mul_le_mul_right h3 hL
theorem wt_inj (hM : 0 < M) {a b : Turn} (ha : IsT M a) (hb : IsT M b) (h : wt M a = wt M b) : a = b := by
  obtain ⟨i, rfl⟩ := ha
  obtain ⟨j, rfl⟩ := hb
  rw [wt_T hM, wt_T hM] at h
  exact Tk_mod hM h
theorem inOrder_congr (hM : 0 < M) {ts ts' : List Turn} (p : ts.Perm ts') (h : ∀ t ∈ ts, IsT M t) : inOrder ts = inOrder ts' := by
  have h' : ∀ t ∈ ts', IsT M t := fun t ht => h t (p.mem_iff.mpr ht)
  refine List.Perm.eq_of_pairwise (le := fun a b => wt M a ≤ wt M b) (fun a b ha hb h1 h2 => ?_) (inOrder_pw hM h) (inOrder_pw hM h') (((inOrder_perm ts).trans p).trans (inOrder_perm ts').symm)
  exact wt_inj hM (h a ((inOrder_perm ts).mem_iff.mp ha)) (h' b ((inOrder_perm ts').mem_iff.mp hb)) (by omega)
theorem tLess_wt (hM : 0 < M) {a b : Turn} (ha : IsT M a) (hb : IsT M b) (h : wt M a ≤ wt M b) : tLess b a = false := by
  obtain ⟨i, rfl⟩ := ha
  obtain ⟨j, rfl⟩ := hb
  have a0 := (isTurn_T hM i).1
  have b0 := (isTurn_T hM j).1
  obtain ⟨x, hx⟩ := Tk_dvd hM i
  obtain ⟨y, hy⟩ := Tk_dvd hM j
  unfold tLess
  refine decide_eq_false fun hlt => ?_
  unfold wt at h
  generalize Tk M i = t at *
  generalize Tk M j = s at *
  rw [show M / t.2 = x by rw [hx, Int.mul_ediv_cancel_left _ (by omega)], show M / s.2 = y by rw [hy, Int.mul_ediv_cancel_left _ (by omega)]] at h
  have hx0 : 0 < x := by
    rcases Int.lt_trichotomy x 0 with h1 | h1 | h1
    · have := Int.mul_neg_of_pos_of_neg a0 h1
      omega
    · rw [h1] at hx
      omega
    · exact h1
  have h1 : t.1 * x * (t.2 * s.2) ≤ s.1 * y * (t.2 * s.2) := Int.mul_le_mul_of_nonneg_right h (Int.le_of_lt (Int.mul_pos a0 b0))
  have e1 : t.1 * x * (t.2 * s.2) = M * (t.1 * s.2) := by rw [hx]; grind
  have e2 : s.1 * y * (t.2 * s.2) = M * (s.1 * t.2) := by rw [hy]; grind
  rw [e1, e2] at h1
  have := Int.le_of_mul_le_mul_left h1 hM
  omega
/-! ### places at parts of M -/
abbrev FP := List (Str × List Int)
def tl (M : Int) (ks : List Int) : List Turn := inOrder (ks.map (Tk M))
def pl (M : Int) (fs : FP) : Pl := fs.map fun x => (x.1, tl M x.2)
def shF (g : Int → Int) (fs : FP) : FP := fs.map fun x => (x.1, x.2.map g)
theorem tl_mem {ks : List Int} {t : Turn} (h : t ∈ tl M ks) : ∃ k ∈ ks, t = Tk M k := by
  obtain ⟨k, hk, e⟩ := List.mem_map.mp ((inOrder_perm _).mem_iff.mp h)
  exact ⟨k, hk, e.symm⟩
theorem tl_map (hM : 0 < M) {ks : List Int} {f : Turn → Turn} {g : Int → Int} (h : ∀ k, f (Tk M k) = Tk M (g k)) : inOrder ((tl M ks).map f) = tl M (ks.map g) := by
  have p : ((tl M ks).map f).Perm ((ks.map g).map (Tk M)) := by
    have p1 := (inOrder_perm (ks.map (Tk M))).map f
    rw [List.map_map] at p1
    have e : ks.map (f ∘ Tk M) = (ks.map g).map (Tk M) := by
      rw [List.map_map]
      exact List.map_congr_left fun k _ => h k
    rw [e] at p1
    exact p1
  refine inOrder_congr hM p fun t ht => ?_
  obtain ⟨k, _, rfl⟩ := List.mem_map.mp (p.mem_iff.mp ht)
  exact ⟨k, rfl⟩
theorem pl_map (hM : 0 < M) {fs : FP} {f : Turn → Turn} {g : Int → Int} (h : ∀ k, f (Tk M k) = Tk M (g k)) : ((pl M fs).map fun x => (x.1, inOrder (x.2.map f))) = pl M (shF g fs) := by
  unfold pl shF
  rw [List.map_map, List.map_map]
  exact List.map_congr_left fun x _ => congrArg (Prod.mk x.1) (tl_map hM h)
theorem turned_pl (hM : 0 < M) {fs : FP} {r : Turn} {c : Int} (hr : Rep M r c) : turnedIn (pl M fs) r = pl M (shF (fun k => k + c) fs) := pl_map hM fun k => rep_tsum hM (rep_T hM k) hr
theorem mirrored_pl (hM : 0 < M) {fs : FP} {r : Turn} {c : Int} (hr : Rep M r c) : mirroredIn (pl M fs) r = pl M (shF (fun k => c - k) fs) := pl_map hM fun k => rep_diff hM hr (rep_T hM k)
theorem each1_pl (hM : 0 < M) {fs : FP} {r : Turn} {c : Int} (hr : Rep M r c) : eachIn (pl M fs) 1 r = pl M (shF (fun k => k + c) fs) := pl_map hM fun k => by
  unfold eachT
  rw [if_pos rfl]
  exact rep_sum hM (rep_T hM k) hr
theorem each2_pl (hM : 0 < M) {fs : FP} {r : Turn} {c : Int} (hr : Rep M r c) : eachIn (pl M fs) (-1) r = pl M (shF (fun k => c - k) fs) := pl_map hM fun k => by
  unfold eachT
  rw [if_neg (by decide), rep_minus hM (rep_T hM k), rep_sum hM (rep_T hM (-k)) hr, show -k + c = c - k by omega]
theorem shF_shF {f g : Int → Int} {fs : FP} : shF g (shF f fs) = shF (fun k => g (f k)) fs := by
  unfold shF
  rw [List.map_map]
  refine List.map_congr_left fun x _ => ?_
  show (x.1, (x.2.map f).map g) = (x.1, x.2.map fun k => g (f k))
  rw [List.map_map]
  rfl
theorem shF_id {fs : FP} : shF (fun k => k) fs = fs := by
  unfold shF
  have : (fun x : Str × List Int => (x.1, x.2.map fun k => k)) = id := by
    funext x
    show (x.1, x.2.map fun k => k) = x
    rw [List.map_id']
  rw [this, List.map_id]
/-- names in order, one to three turns each -/
structure FOk (fs : FP) : Prop where
  len : fs.length ≤ 6
  row : ∀ x ∈ fs, IsName x.1 ∧ 1 ≤ x.2.length ∧ x.2.length ≤ 3
  ord : Nb lessS (fs.map Prod.fst)
theorem FOk.sh {fs : FP} (h : FOk fs) (g : Int → Int) : FOk (shF g fs) := by
  refine ⟨by unfold shF; rw [List.length_map]; exact h.len, fun x hx => ?_, ?_⟩
  · obtain ⟨y, hy, rfl⟩ := List.mem_map.mp hx
    have := h.row y hy
    exact ⟨this.1, by rw [List.length_map]; exact this.2.1, by rw [List.length_map]; exact this.2.2⟩
  · have e : (shF g fs).map Prod.fst = fs.map Prod.fst := by
      unfold shF
      rw [List.map_map]
      rfl
    rw [e]
    exact h.ord
theorem tl_len (ks : List Int) : (tl M ks).length = ks.length := by
  unfold tl
  rw [(inOrder_perm _).length_eq, List.length_map]
theorem isPl_pl (hM : 0 < M) {fs : FP} (h : FOk fs) {b : Nat} (hb : PlB b (pl M fs)) (hb2 : b ≤ 2600) : IsPl (pl M fs) := by
  refine ⟨hb.1, fun x hx => ?_, ?_⟩
  · obtain ⟨y, hy, rfl⟩ := List.mem_map.mp hx
    have hr := h.row y hy
    have hbx := (hb.2 _ hx).2
    refine ⟨hr.1, by show 1 ≤ (tl M y.2).length; rw [tl_len]; exact hr.2.1, by show (tl M y.2).length ≤ 3; rw [tl_len]; exact hr.2.2, fun t ht => ?_, fun i a b ha hb => ?_⟩
    · obtain ⟨k, _, e⟩ := tl_mem ht
      refine ⟨?_, (hbx t ht).mono hb2⟩
      rw [e]
      exact isTurn_T hM k
    · have hall : ∀ t ∈ y.2.map (Tk M), IsT M t := fun t ht => by
        obtain ⟨k, _, rfl⟩ := List.mem_map.mp ht
        exact ⟨k, rfl⟩
      have pw : (tl M y.2).Pairwise fun a b => wt M a ≤ wt M b := inOrder_pw hM hall
      have hA : IsT M a := hall a ((inOrder_perm _).mem_iff.mp (List.mem_of_getElem? ha))
      have hB : IsT M b := hall b ((inOrder_perm _).mem_iff.mp (List.mem_of_getElem? hb))
      obtain ⟨h1, e1⟩ := List.getElem?_eq_some_iff.mp ha
      obtain ⟨h2, e2⟩ := List.getElem?_eq_some_iff.mp hb
      have hw := List.pairwise_iff_getElem.mp pw i (i + 1) h1 h2 (by omega)
      have e1' : (tl M y.2)[i]'h1 = a := e1
      have e2' : (tl M y.2)[i + 1]'h2 = b := e2
      rw [e1', e2'] at hw
      exact tLess_wt hM hA hB hw
  · have e : (pl M fs).map Prod.fst = fs.map Prod.fst := by
      unfold pl
      rw [List.map_map]
      rfl
    rw [e]
    exact h.ord
end
end K31

set_option Elab.async false
set_option linter.all false
set_option maxRecDepth 100000
set_option maxHeartbeats 1000000
namespace K31
open PySem PySem.Spec PyProof.Rows L2
/-! ### differences by shifts -/
abbrev Fn := Int → Int
def Sd (d : Nat) (f : Fn) : Fn := fun x => f (x - (d : Int)) - f x
def Op (ds : List Nat) (f : Fn) : Fn := ds.foldr Sd f
theorem Sd_comm (a b : Nat) (f : Fn) : Sd a (Sd b f) = Sd b (Sd a f) := by
  funext x
  show (f (x - a - b) - f (x - a)) - (f (x - b) - f x) = (f (x - b - a) - f (x - b)) - (f (x - a) - f x)
  rw [show x - (a : Int) - b = x - b - a by omega]
  omega
theorem Op_Sd (d : Nat) : ∀ (ds : List Nat) (f : Fn), Op ds (Sd d f) = Sd d (Op ds f)
  | [], f => rfl
  | a :: ds, f => by
    show Sd a (Op ds (Sd d f)) = Sd d (Sd a (Op ds f))
    rw [Op_Sd d ds f, Sd_comm]
theorem Op_perm {ds es : List Nat} (h : ds.Perm es) (f : Fn) : Op ds f = Op es f := by
  induction h with
  | nil => rfl
  | cons a _ ih => exact congrArg (Sd a) ih
  | swap a b l => exact Sd_comm b a _
  | trans _ _ ih1 ih2 => exact ih1.trans ih2
theorem Op_app (ds es : List Nat) (f : Fn) : Op (ds ++ es) f = Op ds (Op es f) := List.foldr_append
theorem Sd_sub (d : Nat) (f g : Fn) : Sd d (fun x => f x - g x) = fun x => Sd d f x - Sd d g x := by
  funext x
  show (f (x - d) - g (x - d)) - (f x - g x) = (f (x - d) - f x) - (g (x - d) - g x)
  omega
theorem Op_sub : ∀ (ds : List Nat) (f g : Fn), Op ds (fun x => f x - g x) = fun x => Op ds f x - Op ds g x
  | [], f, g => rfl
  | d :: ds, f, g => by
    show Sd d (Op ds fun x => f x - g x) = _
    rw [Op_sub ds f g, Sd_sub]
    rfl
theorem Op_zero : ∀ (ds : List Nat), Op ds (fun _ => 0) = fun _ => 0
  | [] => rfl
  | d :: ds => by
    show Sd d (Op ds fun _ => 0) = _
    rw [Op_zero ds]
    rfl
theorem Op_zero' (ds : List Nat) {f : Fn} (h : ∀ x, f x = 0) : ∀ x, Op ds f x = 0 := by
  have e : f = fun _ => 0 := funext h
  rw [e, Op_zero]
  exact fun _ => rfl
theorem Op_shift (r : Int) : ∀ (ds : List Nat) (f : Fn) (x : Int), Op ds (fun y => f (y - r)) x = Op ds f (x - r)
  | [], f, x => rfl
  | d :: ds, f, x => by
    show Op ds (fun y => f (y - r)) (x - d) - Op ds (fun y => f (y - r)) x = Op ds f (x - r - d) - Op ds f (x - r)
    rw [Op_shift r ds f, Op_shift r ds f, show x - (d : Int) - r = x - r - d by omega]
/-- by whole rounds the same -/
def Per (M : Nat) (f : Fn) : Prop := ∀ x, f (x - (M : Int)) = f x
theorem Per.op {M : Nat} {f : Fn} (h : Per M f) : ∀ ds : List Nat, Per M (Op ds f)
  | [] => h
  | d :: ds => fun x => by
    show Op ds f (x - M - d) - Op ds f (x - M) = Op ds f (x - d) - Op ds f x
    rw [show x - (M : Int) - d = x - d - M by omega, h.op ds, h.op ds]
theorem Per.mul {M : Nat} {f : Fn} (h : Per M f) : ∀ (k : Nat) (x : Int), f (x - ((k * M : Nat) : Int)) = f x
  | 0, x => by
    rw [Nat.zero_mul]
    show f (x - 0) = f x
    rw [Int.sub_zero]
  | k + 1, x => by
    rw [show x - (((k + 1) * M : Nat) : Int) = (x - ((k * M : Nat) : Int)) - (M : Int) by rw [Nat.succ_mul]; omega, h, h.mul k]
theorem per_sd {d : Nat} {f : Fn} (h : ∀ x, Sd d f x = 0) : Per d f := fun x => by
  have : f (x - d) - f x = 0 := h x
  omega
theorem sd_per {d : Nat} {f : Fn} (h : Per d f) : ∀ x, Sd d f x = 0 := fun x => by
  show f (x - d) - f x = 0
  rw [h]
  omega
theorem per_gcd {f : Fn} (a b : Nat) : Per a f → Per b f → Per (Nat.gcd a b) f := by
  induction a, b using Nat.gcd.induction with
  | H0 n =>
    intro _ hb
    rw [Nat.gcd_zero_left]
    exact hb
  | H1 m n hm ih =>
    intro ha hb
    rw [Nat.gcd_rec]
    refine ih (fun x => ?_) ha
    have e := Nat.div_add_mod n m
    have h1 := hb (x + ((n / m * m : Nat) : Int))
    have h2 := ha.mul (n / m) (x + ((n / m * m : Nat) : Int))
    have e2 : x + ((n / m * m : Nat) : Int) - ((n / m * m : Nat) : Int) = x := by omega
    rw [e2] at h2
    have e3 : x + ((n / m * m : Nat) : Int) - (n : Int) = x - ((n % m : Nat) : Int) := by
      rw [Nat.mul_comm]
      omega
    rw [e3] at h1
    rw [h1, h2]
/-- what is asked at y stands in y's class -/
theorem op_local {e : Nat} : ∀ (ds : List Nat), (∀ d ∈ ds, e ∣ d) → ∀ (f : Fn) (y : Int), (∀ z, (e : Int) ∣ (z - y) → f z = 0) → Op ds f y = 0
  | [], _, f, y, h => h y ⟨0, by omega⟩
  | d :: ds, hd, f, y, h => by
    have ih := op_local ds fun a ha => hd a (List.mem_cons_of_mem _ ha)
    show Op ds f (y - d) - Op ds f y = 0
    have hde : (e : Int) ∣ (d : Int) := Int.natCast_dvd_natCast.mpr (hd d List.mem_cons_self)
    rw [ih f y h, ih f (y - d) fun z hz => h z ?_]
    · rfl
    · have := Int.dvd_sub hz hde
      rw [show z - (y - (d : Int)) - d = z - y by omega] at this
      exact this
theorem pigeon {R : Nat → Int → Prop} {L : List Int} {p : Nat} (h : ∀ j, j < p → ∃ l ∈ L, R j l) (hl : L.length < p) : ∃ i j l, i < j ∧ j < p ∧ R i l ∧ R j l := by
  have hx : ∀ j : Nat, ∃ i, j < p → ∃ l, L[i]? = some l ∧ R j l := fun j => by
    by_cases hj : j < p
    · obtain ⟨l, hl1, hr⟩ := h j hj
      obtain ⟨i, hi⟩ := List.mem_iff_getElem?.mp hl1
      exact ⟨i, fun _ => ⟨l, hi, hr⟩⟩
    · exact ⟨0, fun h => absurd h hj⟩
  obtain ⟨g, hg⟩ : ∃ g : Nat → Nat, ∀ j, j < p → ∃ l, L[g j]? = some l ∧ R j l := ⟨fun j => (hx j).choose, fun j => (hx j).choose_spec⟩
  rcases Classical.em (∃ i j, i < j ∧ j < p ∧ g i = g j) with ⟨i, j, h1, h2, h3⟩ | hn
  · obtain ⟨l, e1, r1⟩ := hg i (by omega)
    obtain ⟨l', e2, r2⟩ := hg j h2
    rw [h3, e2] at e1
    cases e1
    exact ⟨i, j, l, h1, h2, r1, r2⟩
  · exfalso
    have nd : ((List.range p).map g).Nodup := by
      rw [List.nodup_iff_pairwise_ne, List.pairwise_map]
      refine List.Pairwise.imp_of_mem (fun {a b} ha hb hab hne => hn ⟨a, b, hab, List.mem_range.mp hb, hne⟩) List.pairwise_lt_range
    have := nat_nodup_len _ (List.range L.length) nd fun x hx => by
      obtain ⟨j, hj, rfl⟩ := List.mem_map.mp hx
      obtain ⟨l, e1, _⟩ := hg j (List.mem_range.mp hj)
      exact List.mem_range.mpr (List.getElem?_eq_some_iff.mp e1).1
    rw [List.length_map, List.length_range, List.length_range] at this
    omega
/-- fewer classes than places in a round: some place is free -/
theorem free_round {e c p : Nat} {F : Fn} {ds : List Nat} {L : List Int} (hds : ∀ d ∈ ds, e ∣ d) (hc : ∀ j, 0 < j → j < p → ¬ e ∣ j * c) (hL : L.length < p) (hF : ∀ z, F z ≠ 0 → ∃ l ∈ L, (e : Int) ∣ (z - l)) (h : Per c (Op ds F)) : ∀ x, Op ds F x = 0 := by
  intro x
  have hj : ∃ j, j < p ∧ ∀ l ∈ L, ¬ (e : Int) ∣ (x - ((j * c : Nat) : Int) - l) := by
    rcases Classical.em (∃ j, j < p ∧ ∀ l ∈ L, ¬ (e : Int) ∣ (x - ((j * c : Nat) : Int) - l)) with h | hn
    · exact h
    · exfalso
      obtain ⟨i, j, l, hij, hjp, h1, h2⟩ := pigeon (R := fun j l => (e : Int) ∣ (x - ((j * c : Nat) : Int) - l)) (L := L) (p := p) (fun j hj => Classical.byContradiction fun hk => hn ⟨j, hj, fun l hl hd => hk ⟨l, hl, hd⟩⟩) hL
      have h3 := Int.dvd_sub h1 h2
      rw [show x - ((i * c : Nat) : Int) - l - (x - ((j * c : Nat) : Int) - l) = (((j - i) * c : Nat) : Int) by
        rw [Nat.sub_mul]
        have : i * c ≤ j * c := Nat.mul_le_mul_right c (by omega)
        omega] at h3
      exact hc (j - i) (by omega) (by omega) (Int.natCast_dvd_natCast.mp h3)
  obtain ⟨j, hjp, hfree⟩ := hj
  rw [← h.mul j x]
  refine op_local ds hds F _ fun z hz => ?_
  rcases Classical.em (F z = 0) with h0 | h0
  · exact h0
  · exfalso
    obtain ⟨l, hl, hd⟩ := hF z h0
    have := Int.dvd_sub hd hz
    rw [show z - l - (z - (x - ((j * c : Nat) : Int))) = x - ((j * c : Nat) : Int) - l by omega] at this
    exact hfree l hl this
/-! ### primes -/
def IsP (p : Nat) : Prop := 2 ≤ p ∧ ∀ d, d ∣ p → d = 1 ∨ d = p
theorem IsP.cop {p n : Nat} (h : IsP p) (hn : ¬ p ∣ n) : Nat.Coprime p n := by
  rcases h.2 _ (Nat.gcd_dvd_left p n) with e | e
  · exact e
  · exact absurd (e ▸ Nat.gcd_dvd_right p n) hn
theorem has_prime : ∀ n : Nat, 2 ≤ n → ∃ p, IsP p ∧ p ∣ n := by
  intro n
  induction n using Nat.strongRecOn with
  | ind n ih =>
    intro hn
    rcases Classical.em (IsP n) with h | h
    · exact ⟨n, h, Nat.dvd_refl n⟩
    · have : ∃ d, d ∣ n ∧ d ≠ 1 ∧ d ≠ n := Classical.byContradiction fun hk => h ⟨hn, fun d hd => by
        rcases Classical.em (d = 1) with h1 | h1
        · exact .inl h1
        · rcases Classical.em (d = n) with h2 | h2
          · exact .inr h2
          · exact absurd ⟨d, hd, h1, h2⟩ hk⟩
      obtain ⟨d, hd, h1, h2⟩ := this
      have hle := Nat.le_of_dvd (by omega) hd
      have h0 : d ≠ 0 := fun z => by
        rw [z] at hd
        have := Nat.eq_zero_of_zero_dvd hd
        omega
      obtain ⟨p, hp, hpd⟩ := ih d (by omega) (by omega)
      exact ⟨p, hp, Nat.dvd_trans hpd hd⟩
theorem p_part {p : Nat} (hp : 2 ≤ p) : ∀ M : Nat, 0 < M → ∃ a N, M = p ^ a * N ∧ ¬ p ∣ N := by
  intro M
  induction M using Nat.strongRecOn with
  | ind M ih =>
    intro hM
    rcases Classical.em (p ∣ M) with ⟨k, hk⟩ | h
    · have hk0 : 0 < k := Nat.pos_of_ne_zero fun z => by
        rw [z] at hk
        omega
      have hlt : k < M := by
        rw [hk]
        have : 1 * k < p * k := Nat.mul_lt_mul_of_pos_right (by omega) hk0
        omega
      obtain ⟨a, N, h1, h2⟩ := ih k hlt hk0
      refine ⟨a + 1, N, ?_, h2⟩
      rw [hk, h1, Nat.pow_succ, ← Nat.mul_assoc, Nat.mul_comm p]
    · exact ⟨0, M, by rw [Nat.pow_zero, Nat.one_mul], h⟩
/-- THE STEP: a prime with more places than arms falls away -/
theorem drop_prime {M p c : Nat} {F : Fn} {ds : List Nat} {L : List Int} (hM : 0 < M) (hp : IsP p) (hc : M = p * c) (hds : ∀ d ∈ ds, ∃ q, M = q * d ∧ Nat.Coprime p q) (hL : L.length < p) (hF : ∀ z, F z ≠ 0 → ∃ l ∈ L, (M : Int) ∣ (z - l)) (h : Per c (Op ds F)) : ∀ x, Op ds F x = 0 := by
  obtain ⟨a, N, hN, hpN⟩ := p_part hp.1 M hM
  have ha : a ≠ 0 := fun z => by
    rw [z, Nat.pow_zero, Nat.one_mul] at hN
    exact hpN ⟨c, by rw [← hN, hc]⟩
  obtain ⟨b, rfl⟩ : ∃ b, a = b + 1 := ⟨a - 1, by omega⟩
  have hcN : c = p ^ b * N := by
    have : p * c = p * (p ^ b * N) := by
      rw [← hc, hN, Nat.pow_succ, Nat.mul_comm (p ^ b) p, Nat.mul_assoc]
    exact Nat.eq_of_mul_eq_mul_left (by have := hp.1; omega) this
  refine free_round (e := p ^ (b + 1)) (c := c) (p := p) (L := L) (fun d hd => ?_) (fun j hj0 hjp hdv => ?_) hL (fun z hz => ?_) h
  · obtain ⟨q, hq, hcop⟩ := hds d hd
    refine Nat.Coprime.dvd_of_dvd_mul_left (m := q) (Nat.Coprime.pow_left _ hcop) ⟨N, ?_⟩
    rw [← hq, hN]
  · rw [hcN, Nat.pow_succ] at hdv
    have h2 : p ^ b * p ∣ p ^ b * (j * N) := by
      rw [show p ^ b * (j * N) = j * (p ^ b * N) by rw [← Nat.mul_assoc, ← Nat.mul_assoc, Nat.mul_comm j]]
      exact hdv
    have h3 : p ∣ j * N := Nat.dvd_of_mul_dvd_mul_left (Nat.pow_pos (by have := hp.1; omega)) h2
    have h4 : p ∣ j := Nat.Coprime.dvd_of_dvd_mul_right (hp.cop hpN) h3
    have := Nat.le_of_dvd hj0 h4
    omega
  · obtain ⟨l, hl, hd⟩ := hF z hz
    refine ⟨l, hl, Int.dvd_trans (Int.natCast_dvd_natCast.mpr ⟨N, hN⟩) hd⟩
/-- a difference that is the same a part further is nought -/
theorem round_zero {M p c : Nat} {g : Fn} (hp : 0 < p) (hc : M = p * c) (hg : Per M g) (h : Per c (Sd c g)) : ∀ x, Sd c g x = 0 := by
  intro x
  have key : ∀ k : Nat, g (x - ((k * c : Nat) : Int)) - g x = (k : Int) * Sd c g x := by
    intro k
    induction k with
    | zero =>
      rw [Nat.zero_mul]
      show g (x - 0) - g x = 0 * _
      rw [Int.sub_zero, Int.zero_mul]
      omega
    | succ k ih =>
      have h1 : Sd c g (x - ((k * c : Nat) : Int)) = Sd c g x := h.mul k x
      have h2 : Sd c g (x - ((k * c : Nat) : Int)) = g (x - ((k * c : Nat) : Int) - c) - g (x - ((k * c : Nat) : Int)) := rfl
      rw [show x - (((k + 1) * c : Nat) : Int) = x - ((k * c : Nat) : Int) - (c : Int) by rw [Nat.succ_mul]; omega]
      rw [show ((k + 1 : Nat) : Int) * Sd c g x = (k : Int) * Sd c g x + Sd c g x by rw [Int.natCast_add, Int.add_mul]; omega]
      omega
  have h1 := key p
  rw [← hc, hg] at h1
  have h2 : (p : Int) * Sd c g x = 0 := by omega
  rcases Int.mul_eq_zero.mp h2 with e | e
  · omega
  · exact e
end K31

set_option Elab.async false
set_option linter.all false
set_option maxRecDepth 100000
set_option maxHeartbeats 1000000
namespace K31
open PySem PySem.Spec PyProof.Rows L2
/-! ### sums of roots, by number -/
def cnt (M : Nat) (ks : List Int) : Fn := fun x => ((ks.countP fun k => decide ((M : Int) ∣ (x - k)) : Nat) : Int)
theorem cnt_supp {M : Nat} {ks : List Int} {z : Int} (h : cnt M ks z ≠ 0) : ∃ k ∈ ks, (M : Int) ∣ (z - k) := by
  have h1 : 0 < ks.countP fun k => decide ((M : Int) ∣ (z - k)) := Nat.pos_of_ne_zero fun e => h (by unfold cnt; rw [e]; rfl)
  obtain ⟨k, hk, hd⟩ := List.countP_pos_iff.mp h1
  exact ⟨k, hk, of_decide_eq_true hd⟩
theorem cnt_congr {M : Nat} {x y : Int} (h : (M : Int) ∣ (x - y)) (ks : List Int) : cnt M ks x = cnt M ks y := by
  unfold cnt
  congr 1
  refine List.countP_congr fun k _ => ?_
  rw [decide_eq_true_eq, decide_eq_true_eq]
  constructor
  · intro hd
    have := Int.dvd_sub hd h
    rw [show x - k - (x - y) = y - k by omega] at this
    exact this
  · intro hd
    have := Int.dvd_add hd h
    rw [show y - k + (x - y) = x - k by omega] at this
    exact this
theorem cnt_per (M : Nat) (ks : List Int) : Per M (cnt M ks) := fun x => cnt_congr ⟨-1, by omega⟩ ks
abbrev shs (M : Nat) (ps : List Nat) : List Nat := ps.map fun p => M / p
theorem drop_all {M : Nat} {F : Fn} {L : List Int} (hM : 0 < M) (hL : L.length ≤ 6) (hF : ∀ z, F z ≠ 0 → ∃ l ∈ L, (M : Int) ∣ (z - l)) {A : List Nat} (hA : ∀ q ∈ A, 0 < q ∧ q ∣ M) : ∀ B : List Nat, (∀ p ∈ B, IsP p ∧ 7 ≤ p ∧ p ∣ M) → (B ++ A).Pairwise Nat.Coprime →
    (∀ x, Op (shs M (B ++ A)) F x = 0) → ∀ x, Op (shs M A) F x = 0
  | [], _, _, h => h
  | p :: B, hB, hpw, h => by
    obtain ⟨h1, h2⟩ := List.pairwise_cons.mp hpw
    obtain ⟨ip, p7, c, hc⟩ := hB p List.mem_cons_self
    have hcd : M / p = c := by rw [hc, Nat.mul_div_cancel_left _ (by omega)]
    refine drop_all hM hL hF hA B (fun q hq => hB q (List.mem_cons_of_mem _ hq)) h2 ?_
    refine drop_prime (p := p) (c := c) (L := L) hM ip hc (fun d hd => ?_) (by omega) hF (per_sd fun x => ?_)
    · obtain ⟨q, hq, rfl⟩ := List.mem_map.mp hd
      have hq2 : 0 < q ∧ q ∣ M := by
        rcases List.mem_append.mp hq with e | e
        · have := hB q (List.mem_cons_of_mem _ e)
          exact ⟨by omega, this.2.2⟩
        · exact hA q e
      exact ⟨q, (Nat.mul_div_cancel' hq2.2).symm, h1 q hq⟩
    · have := h x
      have e : Op (shs M (p :: B ++ A)) F = Sd (M / p) (Op (shs M (B ++ A)) F) := rfl
      rw [e, hcd] at this
      exact this
/-! ### on one coset -/
def Cos (m : Nat) (w : Int) (F : Fn) : Prop := ∀ z, F z ≠ 0 → (m : Int) ∣ (z - w)
theorem Cos.op {m : Nat} {w : Int} {F : Fn} (h : Cos m w F) : ∀ ds : List Nat, (∀ d ∈ ds, m ∣ d) → Cos m w (Op ds F)
  | [], _ => h
  | d :: ds, hd => fun z hz => by
    have ih := h.op ds fun a ha => hd a (List.mem_cons_of_mem _ ha)
    have hdz : Op ds F (z - d) - Op ds F z ≠ 0 := hz
    rcases Classical.em (Op ds F z = 0) with e | e
    · have h2 : Op ds F (z - d) ≠ 0 := by omega
      have h3 := ih _ h2
      have h4 := Int.dvd_add h3 (Int.natCast_dvd_natCast.mpr (hd d List.mem_cons_self))
      rw [show z - (d : Int) - w + d = z - w by omega] at h4
      exact h4
    · exact ih z e
theorem Cos.inj {m d : Nat} {w : Int} {G : Fn} (h : Cos m w G) (hd : ¬ m ∣ d) (hs : ∀ x, Sd d G x = 0) : ∀ x, G x = 0 := by
  intro x
  rcases Classical.em (G x = 0) with e | e
  · exact e
  · exfalso
    have h1 := h x e
    have h2 := h (x - d) (by rw [per_sd hs x]; exact e)
    have h3 := Int.dvd_sub h1 h2
    rw [show x - w - (x - (d : Int) - w) = d by omega] at h3
    exact hd (Int.natCast_dvd_natCast.mp h3)
theorem Cos.le {m k : Nat} {w : Int} {F : Fn} (h : Cos m w F) (hk : k ∣ m) : Cos k w F := fun z hz => Int.dvd_trans (Int.natCast_dvd_natCast.mpr hk) (h z hz)
/-- a prime of 30 that is not in n falls away -/
theorem peel {n m u M p Q c : Nat} {w : Int} {F : Fn} {ds : List Nat} (hM : M = n * m) (hm : m = Q * u) (hu : 0 < u) (hp : IsP p) (hpQ : ¬ p ∣ Q) (hpn : ¬ p ∣ n) (hc : M = p * c) (h : Cos m w F) (hds : ∀ d ∈ ds, u ∣ d) : (∀ x, Op (c :: ds) F x = 0) ↔ ∀ x, Op ds F x = 0 := by
  refine ⟨fun h0 => ?_, fun h0 => Op_zero' [c] h0⟩
  refine Cos.inj (m := u) (d := c) (w := w) (Cos.op (h.le ⟨Q, by rw [hm, Nat.mul_comm]⟩) ds hds) (fun ⟨k, hk⟩ => ?_) h0
  have e : u * (p * k) = u * (n * Q) := by
    rw [show u * (p * k) = p * (u * k) by rw [← Nat.mul_assoc, Nat.mul_comm u p, Nat.mul_assoc], ← hk, ← hc, hM, hm]
    rw [← Nat.mul_assoc, Nat.mul_comm u]
  have e2 : p * k = n * Q := Nat.eq_of_mul_eq_mul_left hu e
  have h3 : p ∣ n * Q := ⟨k, e2.symm⟩
  exact hpQ (Nat.Coprime.dvd_of_dvd_mul_left (hp.cop hpn) h3)
theorem isP2 : IsP 2 := ⟨by decide, fun d hd => by
  have h1 := Nat.le_of_dvd (by decide) hd
  have hall : ∀ d, d ≤ 2 → d ∣ 2 → d = 1 ∨ d = 2 := by decide
  exact hall d h1 hd⟩
theorem isP3 : IsP 3 := ⟨by decide, fun d hd => by
  have h1 := Nat.le_of_dvd (by decide) hd
  have hall : ∀ d, d ≤ 3 → d ∣ 3 → d = 1 ∨ d = 3 := by decide
  exact hall d h1 hd⟩
theorem isP5 : IsP 5 := ⟨by decide, fun d hd => by
  have h1 := Nat.le_of_dvd (by decide) hd
  have hall : ∀ d, d ≤ 5 → d ∣ 5 → d = 1 ∨ d = 5 := by decide
  exact hall d h1 hd⟩
def big : List Nat := [7, 11, 13, 17, 19, 23, 29, 31, 37, 41, 43, 47, 53, 59]
theorem big_P : ∀ p ∈ big, IsP p ∧ 7 ≤ p := by
  have hall : ∀ p ∈ big, 7 ≤ p ∧ p ≤ 59 ∧ ∀ d, d ≤ 59 → d ∣ p → d = 1 ∨ d = p := by decide +kernel
  intro p hp
  obtain ⟨h1, h2, h3⟩ := hall p hp
  refine ⟨⟨by omega, fun d hd => h3 d ?_ hd⟩, h1⟩
  have := Nat.le_of_dvd (by omega) hd
  omega
theorem big_pw : (big ++ [2, 3, 5]).Pairwise Nat.Coprime := by decide +kernel
theorem p17_eq : primes17.Perm (big ++ [2, 3, 5]) := by
  show ([2, 3, 5] ++ big).Perm (big ++ [2, 3, 5])
  exact List.perm_append_comm
abbrev dv (n : Nat) (ps : List Nat) : List Nat := ps.filter fun p => decide (n % p = 0)
/-- K: the three differences of a 30th part -/
abbrev Kop (M : Nat) (F : Fn) : Fn := Op (shs M [2, 3, 5]) F
theorem K_iff {n m u M : Nat} {w : Int} {F : Fn} (hM : M = n * m) (hm : m = 30 * u) (hu : 0 < u) (h : Cos m w F) : (∀ x, Kop M F x = 0) ↔ ∀ x, Op (shs M (dv n [2, 3, 5])) F x = 0 := by
  have e2 : M / 2 = n * (15 * u) := by rw [hM, hm, show n * (30 * u) = 2 * (n * (15 * u)) by grind, Nat.mul_div_cancel_left _ (by decide)]
  have e3 : M / 3 = n * (10 * u) := by rw [hM, hm, show n * (30 * u) = 3 * (n * (10 * u)) by grind, Nat.mul_div_cancel_left _ (by decide)]
  have e5 : M / 5 = n * (6 * u) := by rw [hM, hm, show n * (30 * u) = 5 * (n * (6 * u)) by grind, Nat.mul_div_cancel_left _ (by decide)]
  have k2 : M = 2 * (M / 2) := by rw [e2, hM, hm]; grind
  have k3 : M = 3 * (M / 3) := by rw [e3, hM, hm]; grind
  have k5 : M = 5 * (M / 5) := by rw [e5, hM, hm]; grind
  have q2 : ∀ ds : List Nat, ¬ n % 2 = 0 → (∀ d ∈ ds, d = M / 3 ∨ d = M / 5) → ((∀ x, Op ((M / 2) :: ds) F x = 0) ↔ ∀ x, Op ds F x = 0) := fun ds hn hd => by
    refine peel (p := 2) (Q := 15) (u := 2 * u) hM (by rw [hm]; grind) (by omega) isP2 (by decide) (fun z => hn (Nat.mod_eq_zero_of_dvd z)) k2 h fun d hdd => ?_
    rcases hd d hdd with e | e
    · rw [e, e3]
      exact ⟨n * 5, by grind⟩
    · rw [e, e5]
      exact ⟨n * 3, by grind⟩
  have q3 : ∀ ds : List Nat, ¬ n % 3 = 0 → (∀ d ∈ ds, d = M / 2 ∨ d = M / 5) → ((∀ x, Op ((M / 3) :: ds) F x = 0) ↔ ∀ x, Op ds F x = 0) := fun ds hn hd => by
    refine peel (p := 3) (Q := 10) (u := 3 * u) hM (by rw [hm]; grind) (by omega) isP3 (by decide) (fun z => hn (Nat.mod_eq_zero_of_dvd z)) k3 h fun d hdd => ?_
    rcases hd d hdd with e | e
    · rw [e, e2]
      exact ⟨n * 5, by grind⟩
    · rw [e, e5]
      exact ⟨n * 2, by grind⟩
  have q5 : ∀ ds : List Nat, ¬ n % 5 = 0 → (∀ d ∈ ds, d = M / 2 ∨ d = M / 3) → ((∀ x, Op ((M / 5) :: ds) F x = 0) ↔ ∀ x, Op ds F x = 0) := fun ds hn hd => by
    refine peel (p := 5) (Q := 6) (u := 5 * u) hM (by rw [hm]; grind) (by omega) isP5 (by decide) (fun z => hn (Nat.mod_eq_zero_of_dvd z)) k5 h fun d hdd => ?_
    rcases hd d hdd with e | e
    · rw [e, e2]
      exact ⟨n * 3, by grind⟩
    · rw [e, e3]
      exact ⟨n * 2, by grind⟩
  show (∀ x, Op [M / 2, M / 3, M / 5] F x = 0) ↔ _
  have pm : ∀ a b c : Nat, Op [a, b, c] F = Op [c, a, b] F := fun a b c => Op_perm (List.perm_append_comm (l₁ := [a, b]) (l₂ := [c])) F
  have pm2 : ∀ a b : Nat, Op [a, b] F = Op [b, a] F := fun a b => Op_perm (List.perm_append_comm (l₁ := [a]) (l₂ := [b])) F
  have pm3 : Op [M / 2, M / 3, M / 5] F = Op [M / 3, M / 2, M / 5] F := Op_perm (List.Perm.swap _ _ _) F
  by_cases h2 : n % 2 = 0 <;> by_cases h3 : n % 3 = 0 <;> by_cases h5 : n % 5 = 0 <;> simp only [dv, shs, List.filter_cons, List.filter_nil, h2, h3, h5, decide_true, decide_false, if_true, Bool.false_eq_true, if_false, List.map_cons, List.map_nil]
  · rw [pm, q5 _ h5 (by simp)]
  · rw [pm3, q3 _ h3 (by simp)]
  · rw [pm3, q3 _ h3 (by simp), pm2, q5 _ h5 (by simp)]
  · rw [q2 _ h2 (by simp)]
  · rw [q2 _ h2 (by simp), pm2, q5 _ h5 (by simp)]
  · rw [q2 _ h2 (by simp), q3 _ h3 (by simp)]
  · rw [q2 _ h2 (by simp), q3 _ h3 (by simp), q5 _ h5 (by simp)]
/-- all differences by the primes of n, and the three -/
theorem key_iff {n m u M : Nat} {w : Int} {F : Fn} {L : List Int} (hn : 0 < n) (hM : M = n * m) (hm : m = 30 * u) (hu : 0 < u) (h : Cos m w F) (hL : L.length ≤ 6) (hF : ∀ z, F z ≠ 0 → ∃ l ∈ L, (M : Int) ∣ (z - l)) :
    (∀ x, Op (shs M (dv n primes17)) F x = 0) ↔ ∀ x, Kop M F x = 0 := by
  rw [K_iff hM hm hu h]
  have hM0 : 0 < M := by
    rw [hM, hm]
    exact Nat.mul_pos hn (by omega)
  have e : Op (shs M (dv n primes17)) F = Op (shs M (dv n big ++ dv n [2, 3, 5])) F := by
    refine Op_perm ?_ F
    refine List.Perm.map _ ?_
    rw [← List.filter_append]
    exact p17_eq.filter _
  rw [e]
  have hdvd : ∀ p, n % p = 0 → p ∣ M := fun p hp => by
    rw [hM]
    exact Nat.dvd_trans (Nat.dvd_of_mod_eq_zero hp) ⟨m, rfl⟩
  constructor
  · refine drop_all hM0 hL hF (fun q hq => ?_) _ (fun p hp => ?_) ?_
    · obtain ⟨h1, h2⟩ := List.mem_filter.mp hq
      refine ⟨?_, hdvd q (of_decide_eq_true h2)⟩
      have hall : ∀ q ∈ [2, 3, 5], 0 < q := by decide
      exact hall q h1
    · obtain ⟨h1, h2⟩ := List.mem_filter.mp hp
      exact ⟨(big_P p h1).1, (big_P p h1).2, hdvd p (of_decide_eq_true h2)⟩
    · rw [← List.filter_append]
      exact big_pw.filter _
  · intro h0
    have e2 : Op (shs M (dv n big ++ dv n [2, 3, 5])) F = Op (shs M (dv n big)) (Op (shs M (dv n [2, 3, 5])) F) := by
      unfold shs
      rw [List.map_append, Op_app]
    rw [e2]
    exact Op_zero' _ h0
end K31

set_option Elab.async false
set_option linter.all false
set_option maxRecDepth 100000
set_option maxHeartbeats 1000000
namespace K31
open PySem PySem.Spec PyProof.Rows L2
/-! ### the law's key as differences -/
def Ex (n m : Nat) (w : Int) (f : List Int) : Fn := fun x => if (m : Int) ∣ (x - w) then f.getD (((x - w) / (m : Int)) % (n : Int)).toNat 0 else 0
section
variable {n m : Nat} {w : Int}
theorem Ex_at (hm : 0 < m) (f : List Int) (y : Int) : Ex n m w f ((m : Int) * y + w) = f.getD (y % (n : Int)).toNat 0 := by
  unfold Ex
  rw [show (m : Int) * y + w - w = (m : Int) * y by omega, if_pos ⟨y, rfl⟩, Int.mul_ediv_cancel_left _ (by omega)]
theorem Ex_off (f : List Int) {x : Int} (h : ¬ (m : Int) ∣ (x - w)) : Ex n m w f x = 0 := by
  unfold Ex
  rw [if_neg h]
theorem diffs_get {s j : Nat} {f : List Int} (hj : j < n) : (diffs n s f).getD j 0 = f.getD ((j + n - s) % n) 0 - f.getD j 0 := by
  unfold diffs
  rw [List.getD_eq_getElem?_getD, List.getElem?_map, List.getElem?_range hj]
  rfl
theorem Ex_diffs (hn : 0 < n) (hm : 0 < m) {s : Nat} (hs : s ≤ n) (f : List Int) : Ex n m w (diffs n s f) = Sd (s * m) (Ex n m w f) := by
  funext x
  show _ = Ex n m w f (x - ((s * m : Nat) : Int)) - Ex n m w f x
  by_cases hx : (m : Int) ∣ (x - w)
  · obtain ⟨y, hy⟩ := hx
    have e1 : x = (m : Int) * y + w := by omega
    have e2 : x - ((s * m : Nat) : Int) = (m : Int) * (y - s) + w := by
      rw [e1, Int.mul_sub, Int.natCast_mul, Int.mul_comm (s : Int)]
      omega
    rw [e2, e1, Ex_at hm, Ex_at hm, Ex_at hm]
    have h0 := Int.emod_nonneg y (show (n : Int) ≠ 0 by omega)
    have h1 := Int.emod_lt_of_pos y (show (0 : Int) < n by omega)
    rw [diffs_get (by omega)]
    have e3 : ((y % (n : Int)).toNat + n - s) % n = ((y - (s : Int)) % (n : Int)).toNat := by
      have e4 : (((((y % (n : Int)).toNat + n - s) % n : Nat)) : Int) = (y - (s : Int)) % (n : Int) := by
        rw [Int.natCast_emod]
        have e5 : (((y % (n : Int)).toNat + n - s : Nat) : Int) = (y - s) + (n : Int) * (1 - y / (n : Int)) := by
          have := Int.mul_ediv_add_emod y (n : Int)
          rw [Int.mul_sub]
          omega
        rw [e5, Int.add_mul_emod_self_left]
      omega
    rw [e3]
  · have h2 : ¬ (m : Int) ∣ (x - ((s * m : Nat) : Int) - w) := fun hd => hx (by
      have := Int.dvd_add hd (Int.natCast_dvd_natCast.mpr ⟨s, Nat.mul_comm s m⟩)
      rw [show x - ((s * m : Nat) : Int) - w + ((s * m : Nat) : Int) = x - w by omega] at this
      exact this)
    rw [Ex_off _ hx, Ex_off _ hx, Ex_off _ h2]
    rfl
theorem Ex_fold {M : Nat} (hn : 0 < n) (hm : 0 < m) (hM : M = n * m) : ∀ (ps : List Nat) (f : List Int), (∀ p ∈ ps, 0 < p) → Ex n m w (ps.foldl (keyStep n) f) = Op (shs M (dv n ps)).reverse (Ex n m w f)
  | [], f, _ => rfl
  | p :: ps, f, h => by
    have hp := h p List.mem_cons_self
    rw [List.foldl_cons, Ex_fold hn hm hM ps _ fun q hq => h q (List.mem_cons_of_mem _ hq)]
    by_cases hd : n % p = 0
    · have e1 : dv n (p :: ps) = p :: dv n ps := by
        unfold dv
        rw [List.filter_cons, if_pos (decide_eq_true hd)]
      have e2 : keyStep n f p = diffs n (n / p) f := by
        unfold keyStep
        rw [if_pos hd]
      have e3 : M / p = n / p * m := by
        have h1 := Nat.div_add_mod n p
        rw [hd, Nat.add_zero] at h1
        rw [hM, ← h1, Nat.mul_assoc, Nat.mul_div_cancel_left _ hp, Nat.mul_div_cancel_left _ hp]
      rw [e1, e2, Ex_diffs hn hm (Nat.div_le_self n p)]
      show _ = Op ((M / p) :: shs M (dv n ps)).reverse _
      rw [List.reverse_cons, Op_app, e3]
      rfl
    · have e1 : dv n (p :: ps) = dv n ps := by
        unfold dv
        rw [List.filter_cons, if_neg (by rw [decide_eq_true_eq]; exact hd)]
      have e2 : keyStep n f p = f := by
        unfold keyStep
        rw [if_neg hd]
      rw [e1, e2]
theorem bump_get {f : List Int} {i j : Nat} (hj : j < f.length) : (bump f i).getD j 0 = f.getD j 0 + (if i = j then 1 else 0) := by
  unfold bump
  rw [List.getD_eq_getElem?_getD, List.getElem?_set]
  by_cases h : i = j
  · subst h
    rw [if_pos rfl, if_pos hj, if_pos rfl]
    rfl
  · rw [if_neg h, if_neg h, List.getD_eq_getElem?_getD]
    omega
theorem bumps_get : ∀ (js : List Nat) {f : List Int} {j : Nat}, j < f.length → (js.foldl bump f).getD j 0 = f.getD j 0 + ((js.countP fun i => decide (i = j) : Nat) : Int)
  | [], f, j, _ => by
    show f.getD j 0 = f.getD j 0 + 0
    omega
  | i :: js, f, j, h => by
    rw [List.foldl_cons, bumps_get js (by rw [bump_len]; exact h), bump_get h, List.countP_cons]
    by_cases e : i = j
    · rw [if_pos e, if_pos (decide_eq_true e)]
      omega
    · rw [if_neg e, if_neg (by rw [decide_eq_true_eq]; exact e)]
      omega
theorem Ex_cnt {M : Nat} (hn : 0 < n) (hm : 0 < m) (hM : M = n * m) {js : List Nat} (hj : ∀ j ∈ js, j < n) : Ex n m w (js.foldl bump (List.replicate n 0)) = cnt M (js.map fun j : Nat => (j : Int) * (m : Int) + w) := by
  funext x
  by_cases hx : (m : Int) ∣ (x - w)
  · obtain ⟨y, hy⟩ := hx
    have e1 : x = (m : Int) * y + w := by omega
    have h0 := Int.emod_nonneg y (show (n : Int) ≠ 0 by omega)
    have h1 := Int.emod_lt_of_pos y (show (0 : Int) < n by omega)
    rw [e1, Ex_at hm, bumps_get js (by rw [List.length_replicate]; omega)]
    have e2 : (List.replicate n (0 : Int)).getD (y % (n : Int)).toNat 0 = 0 := by
      rw [List.getD_eq_getElem?_getD, List.getElem?_replicate, if_pos (by omega)]
      rfl
    rw [e2, Int.zero_add]
    unfold cnt
    rw [List.countP_map]
    congr 1
    refine List.countP_congr fun j hjm => ?_
    have hjn := hj j hjm
    show decide (j = (y % (n : Int)).toNat) = true ↔ decide ((M : Int) ∣ ((m : Int) * y + w - ((j : Int) * (m : Int) + w))) = true
    rw [decide_eq_true_eq, decide_eq_true_eq]
    have e3 : (m : Int) * y + w - ((j : Int) * (m : Int) + w) = (m : Int) * (y - j) := by
      rw [Int.mul_sub, Int.mul_comm (j : Int)]
      omega
    rw [e3, hM, Int.natCast_mul, Int.mul_comm (n : Int)]
    constructor
    · intro h
      refine Int.mul_dvd_mul_left _ ⟨y / (n : Int), ?_⟩
      have := Int.mul_ediv_add_emod y (n : Int)
      omega
    · intro h
      have h2 : (n : Int) ∣ (y - j) := Int.dvd_of_mul_dvd_mul_left (by omega) h
      obtain ⟨k, hk⟩ := h2
      have h3 : y % (n : Int) = (j : Int) % (n : Int) := by
        rw [show y = (j : Int) + (n : Int) * k by omega, Int.add_mul_emod_self_left]
      have h4 : (j : Int) % (n : Int) = j := Int.emod_eq_of_lt (by omega) (by omega)
      rw [h4] at h3
      omega
  · rw [Ex_off _ hx]
    unfold cnt
    have : (js.map fun j : Nat => (j : Int) * (m : Int) + w).countP (fun k => decide ((M : Int) ∣ (x - k))) = 0 := by
      rw [List.countP_eq_zero]
      intro k hk hd
      obtain ⟨j, _, rfl⟩ := List.mem_map.mp hk
      have h2 := of_decide_eq_true hd
      have h3 : (m : Int) ∣ (x - ((j : Int) * (m : Int) + w)) := Int.dvd_trans (Int.natCast_dvd_natCast.mpr ⟨n, by rw [hM, Nat.mul_comm]⟩) h2
      have h4 := Int.dvd_add h3 (⟨j, Int.mul_comm _ _⟩ : (m : Int) ∣ (j : Int) * (m : Int))
      rw [show x - ((j : Int) * (m : Int) + w) + (j : Int) * (m : Int) = x - w by omega] at h4
      exact hx h4
    rw [this]
    rfl
theorem p17_pos : ∀ p ∈ primes17, 0 < p := by decide
theorem Ex_key {M : Nat} (hn : 0 < n) (hm : 0 < m) (hM : M = n * m) {js : List Nat} (hj : ∀ j ∈ js, j < n) : Ex n m w (keyL n js) = Op (shs M (dv n primes17)) (cnt M (js.map fun j : Nat => (j : Int) * (m : Int) + w)) := by
  rw [keyL_eq, Ex_fold hn hm hM _ _ p17_pos, Ex_cnt hn hm hM hj]
  exact Op_perm (List.reverse_perm _) _
theorem keyL_len (js : List Nat) : (keyL n js).length = n := by
  rw [keyL_eq]
  refine keyFold_len _ _ ?_
  rw [foldl_len bump_len, List.length_replicate]
theorem Ex_inj (hn : 0 < n) (hm : 0 < m) {f g : List Int} (hf : f.length = n) (hg : g.length = n) (h : Ex n m w f = Ex n m w g) : f = g := by
  refine List.ext_getElem (by omega) fun j h1 h2 => ?_
  have e := congrFun h ((m : Int) * (j : Int) + w)
  rw [Ex_at hm, Ex_at hm, Int.emod_eq_of_lt (by omega) (by omega)] at e
  rw [Int.toNat_natCast, List.getD_eq_getElem?_getD, List.getD_eq_getElem?_getD, List.getElem?_eq_getElem h1, List.getElem?_eq_getElem h2] at e
  exact e
/-- THE LAW'S KEY: alike exactly if K's differences are -/
theorem keyL_iff {M u : Nat} (hn : 0 < n) (hM : M = n * m) (hm : m = 30 * u) (hu : 0 < u) (w : Int) {js js' : List Nat} (hj : ∀ j ∈ js, j < n) (hj' : ∀ j ∈ js', j < n) (hl : js.length ≤ 3) (hl' : js'.length ≤ 3) :
    keyL n js = keyL n js' ↔ ∀ x, Kop M (cnt M (js.map fun j : Nat => (j : Int) * (m : Int) + w)) x = Kop M (cnt M (js'.map fun j : Nat => (j : Int) * (m : Int) + w)) x := by
  have hm0 : 0 < m := by omega
  have cosc : ∀ (is : List Nat) (z : Int), cnt M (is.map fun j : Nat => (j : Int) * (m : Int) + w) z ≠ 0 → (m : Int) ∣ (z - w) := fun is z hz => by
    obtain ⟨k, hk, hd⟩ := cnt_supp hz
    obtain ⟨j, _, rfl⟩ := List.mem_map.mp hk
    have h3 : (m : Int) ∣ (z - ((j : Int) * (m : Int) + w)) := Int.dvd_trans (Int.natCast_dvd_natCast.mpr ⟨n, by rw [hM, Nat.mul_comm]⟩) hd
    have h4 := Int.dvd_add h3 (⟨j, Int.mul_comm _ _⟩ : (m : Int) ∣ (j : Int) * (m : Int))
    rw [show z - ((j : Int) * (m : Int) + w) + (j : Int) * (m : Int) = z - w by omega] at h4
    exact h4
  have hsupp : ∀ z, (cnt M (js.map fun j : Nat => (j : Int) * (m : Int) + w) z - cnt M (js'.map fun j : Nat => (j : Int) * (m : Int) + w) z) ≠ 0 → cnt M (js.map fun j : Nat => (j : Int) * (m : Int) + w) z ≠ 0 ∨ cnt M (js'.map fun j : Nat => (j : Int) * (m : Int) + w) z ≠ 0 := fun z hz => by omega
  have key := key_iff (F := fun z => cnt M (js.map fun j : Nat => (j : Int) * (m : Int) + w) z - cnt M (js'.map fun j : Nat => (j : Int) * (m : Int) + w) z) (w := w) (L := (js.map fun j : Nat => (j : Int) * (m : Int) + w) ++ (js'.map fun j : Nat => (j : Int) * (m : Int) + w)) hn hM hm hu
    (fun z hz => by
      rcases hsupp z hz with h | h
      · exact cosc js z h
      · exact cosc js' z h)
    (by rw [List.length_append, List.length_map, List.length_map]; omega)
    (fun z hz => by
      rcases hsupp z hz with h | h
      · obtain ⟨k, hk, hd⟩ := cnt_supp h
        exact ⟨k, List.mem_append_left _ hk, hd⟩
      · obtain ⟨k, hk, hd⟩ := cnt_supp h
        exact ⟨k, List.mem_append_right _ hk, hd⟩)
  have e1 : ∀ ds x, Op ds (fun z => cnt M (js.map fun j : Nat => (j : Int) * (m : Int) + w) z - cnt M (js'.map fun j : Nat => (j : Int) * (m : Int) + w) z) x = Op ds (cnt M (js.map fun j : Nat => (j : Int) * (m : Int) + w)) x - Op ds (cnt M (js'.map fun j : Nat => (j : Int) * (m : Int) + w)) x := fun ds x => congrFun (Op_sub ds _ _) x
  constructor
  · intro h x
    have h2 : ∀ x, Op (shs M (dv n primes17)) (fun z => cnt M (js.map fun j : Nat => (j : Int) * (m : Int) + w) z - cnt M (js'.map fun j : Nat => (j : Int) * (m : Int) + w) z) x = 0 := fun x => by
      rw [e1, ← Ex_key hn hm0 hM hj, ← Ex_key hn hm0 hM hj', h]
      omega
    have h3 := key.mp h2 x
    have h4 := e1 (shs M [2, 3, 5]) x
    show Op (shs M [2, 3, 5]) _ x = Op (shs M [2, 3, 5]) _ x
    have h5 : Op (shs M [2, 3, 5]) (fun z => cnt M (js.map fun j : Nat => (j : Int) * (m : Int) + w) z - cnt M (js'.map fun j : Nat => (j : Int) * (m : Int) + w) z) x = 0 := h3
    omega
  · intro h
    have h2 := key.mpr fun x => by
      have h4 := e1 (shs M [2, 3, 5]) x
      have h5 := h x
      show Op (shs M [2, 3, 5]) _ x = 0
      have h6 : Op (shs M [2, 3, 5]) (cnt M (js.map fun j : Nat => (j : Int) * (m : Int) + w)) x = Op (shs M [2, 3, 5]) (cnt M (js'.map fun j : Nat => (j : Int) * (m : Int) + w)) x := h5
      omega
    refine Ex_inj (w := w) hn hm0 (keyL_len js) (keyL_len js') ?_
    funext x
    rw [Ex_key hn hm0 hM hj, Ex_key hn hm0 hM hj']
    have h3 := h2 x
    have h4 := e1 (shs M (dv n primes17)) x
    omega
end
end K31

set_option Elab.async false
set_option linter.all false
set_option maxRecDepth 100000
set_option maxHeartbeats 1000000
namespace K31
open PySem PySem.Spec PyProof.Rows L2
/-! ### only nought is itself turned -/
theorem Per.mulZ {M : Nat} {f : Fn} (h : Per M f) (q x : Int) : f (x - (M : Int) * q) = f x := by
  by_cases h0 : q < 0
  · have := h.mul (-q).toNat (x - (M : Int) * q)
    have e : (((-q).toNat * M : Nat) : Int) = -((M : Int) * q) := by
      rw [Int.natCast_mul, show (((-q).toNat : Nat) : Int) = -q by omega, Int.neg_mul, Int.mul_comm]
    rw [e, show x - (M : Int) * q - -((M : Int) * q) = x by omega] at this
    exact this.symm
  · have := h.mul q.toNat x
    have e : ((q.toNat * M : Nat) : Int) = (M : Int) * q := by
      rw [Int.natCast_mul, show ((q.toNat : Nat) : Int) = q by omega, Int.mul_comm]
    rw [e] at this
    exact this
theorem not_self_turned {M u : Nat} (hu : 0 < u) (hM : M = 30 * u) {ks : List Int} (hk : ks.length ≤ 3) {r : Int} (hr : ¬ (M : Int) ∣ r) (h : ∀ x, Kop M (cnt M ks) (x - r) = Kop M (cnt M ks) x) : ∀ x, Kop M (cnt M ks) x = 0 := by
  have hM0 : 0 < M := by omega
  have pM : Per M (Kop M (cnt M ks)) := (cnt_per M ks).op _
  have hr0 := Int.emod_nonneg r (show (M : Int) ≠ 0 by omega)
  have hr1 := Int.emod_lt_of_pos r (show (0 : Int) < M by omega)
  have hr2 : r % (M : Int) ≠ 0 := fun z => hr (Int.dvd_of_emod_eq_zero z)
  have er := Int.mul_ediv_add_emod r (M : Int)
  obtain ⟨s, hs⟩ : ∃ s : Nat, r % (M : Int) = s := ⟨(r % (M : Int)).toNat, by omega⟩
  have pr : Per s (Kop M (cnt M ks)) := fun x => by
    have h1 := h (x + (M : Int) * (r / (M : Int)))
    have h2 := pM.mulZ (r / (M : Int)) (x + (M : Int) * (r / (M : Int)))
    rw [show x + (M : Int) * (r / (M : Int)) - r = x - (s : Int) by omega] at h1
    rw [show x + (M : Int) * (r / (M : Int)) - (M : Int) * (r / (M : Int)) = x by omega] at h2
    rw [h1, h2]
  have pd := per_gcd s M pr pM
  obtain ⟨N, hN⟩ := Nat.gcd_dvd_right s M
  have hds : Nat.gcd s M ≤ s := Nat.le_of_dvd (by omega) (Nat.gcd_dvd_left s M)
  generalize Nat.gcd s M = d at pd hN hds
  have hN2 : 2 ≤ N := by
    rcases Nat.lt_or_ge N 2 with h1 | h1
    · exfalso
      have : d * N ≤ d * 1 := Nat.mul_le_mul_left d (by omega)
      omega
    · exact h1
  obtain ⟨p, hp, t, ht⟩ := has_prime N hN2
  have hc : M = p * (t * d) := by
    rw [hN, ht]
    grind
  have pc : Per (t * d) (Kop M (cnt M ks)) := fun x => pd.mul t x
  have hp2 := hp.1
  have e2 : M / 2 = 15 * u := by rw [hM, show 30 * u = 2 * (15 * u) by omega, Nat.mul_div_cancel_left _ (by decide)]
  have e3 : M / 3 = 10 * u := by rw [hM, show 30 * u = 3 * (10 * u) by omega, Nat.mul_div_cancel_left _ (by decide)]
  have e5 : M / 5 = 6 * u := by rw [hM, show 30 * u = 5 * (6 * u) by omega, Nat.mul_div_cancel_left _ (by decide)]
  rcases Nat.lt_or_ge p 7 with hp7 | hp7
  · have hcases : p = 2 ∨ p = 3 ∨ p = 5 := by
      have h4 : p ≠ 4 := fun z => by
        rcases hp.2 2 (by rw [z]; decide) with e | e <;> omega
      have h6 : p ≠ 6 := fun z => by
        rcases hp.2 2 (by rw [z]; decide) with e | e <;> omega
      omega
    rcases hcases with e | e | e
    · subst e
      have e1 : t * d = M / 2 := by rw [hc, Nat.mul_div_cancel_left _ (by decide)]
      rw [e1] at pc
      exact round_zero (p := 2) (c := M / 2) (g := Op [M / 3, M / 5] (cnt M ks)) (by decide) (by omega) ((cnt_per M ks).op _) pc
    · subst e
      have e1 : t * d = M / 3 := by rw [hc, Nat.mul_div_cancel_left _ (by decide)]
      rw [e1] at pc
      have e4 : Kop M (cnt M ks) = Sd (M / 3) (Op [M / 2, M / 5] (cnt M ks)) := Op_perm (List.Perm.swap _ _ _) _
      rw [e4] at pc ⊢
      exact round_zero (p := 3) (c := M / 3) (g := Op [M / 2, M / 5] (cnt M ks)) (by decide) (by omega) ((cnt_per M ks).op _) pc
    · subst e
      have e1 : t * d = M / 5 := by rw [hc, Nat.mul_div_cancel_left _ (by decide)]
      rw [e1] at pc
      have e4 : Kop M (cnt M ks) = Sd (M / 5) (Op [M / 2, M / 3] (cnt M ks)) := Op_perm (List.perm_append_comm (l₁ := [M / 2, M / 3]) (l₂ := [M / 5])) _
      rw [e4] at pc ⊢
      exact round_zero (p := 5) (c := M / 5) (g := Op [M / 2, M / 3] (cnt M ks)) (by decide) (by omega) ((cnt_per M ks).op _) pc
  · refine drop_prime (p := p) (c := t * d) (L := ks) hM0 hp hc (fun a ha => ?_) (by omega) (fun z hz => cnt_supp hz) pc
    have hcop : ∀ q, 0 < q → q < 7 → Nat.Coprime p q := fun q hq0 hq => hp.cop fun hd => by
      have := Nat.le_of_dvd hq0 hd
      omega
    have ha' : a = M / 2 ∨ a = M / 3 ∨ a = M / 5 := by simpa using ha
    rcases ha' with e | e | e
    · exact ⟨2, by omega, hcop 2 (by decide) (by decide)⟩
    · exact ⟨3, by omega, hcop 3 (by decide) (by decide)⟩
    · exact ⟨5, by omega, hcop 5 (by decide) (by decide)⟩
end K31

set_option Elab.async false
set_option linter.all false
set_option maxRecDepth 100000
set_option maxHeartbeats 1000000
namespace K31
open PySem PySem.Spec PyProof.Rows L2
/-! ### what a kept row is -/
theorem subAt_get {v : Int} {s : List Int} {j x : Nat} (hx : x < s.length) : (subAt v s j).getD x 0 = s.getD x 0 - (if j = x then v else 0) := by
  unfold subAt
  rw [List.getD_eq_getElem?_getD, List.getElem?_set]
  by_cases h : j = x
  · subst h
    rw [if_pos rfl, if_pos hx, if_pos rfl]
    rfl
  · rw [if_neg h, if_neg h, List.getD_eq_getElem?_getD]
    omega
theorem sub_fold {v : Int} {g : Nat → Nat} {x : Nat} : ∀ (L : List Nat) (s : List Int), x < s.length → (L.foldl (fun s k => subAt v s (g k)) s).getD x 0 = s.getD x 0 - v * ((L.countP fun k => decide (g k = x) : Nat) : Int)
  | [], s, _ => by
    show s.getD x 0 = s.getD x 0 - v * 0
    omega
  | k :: L, s, h => by
    rw [List.foldl_cons, sub_fold L _ (by rw [subAt_len]; exact h), subAt_get h, List.countP_cons]
    by_cases e : g k = x
    · rw [if_pos e, if_pos (decide_eq_true e), Int.natCast_add, Int.mul_add]
      omega
    · rw [if_neg e, if_neg (by rw [decide_eq_true_eq]; exact e), Nat.add_zero]
      omega
def orb (p part x : Nat) : Nat := (List.range p).countP fun k => decide ((part + k * (30 / p)) % 30 = x)
theorem takeP_get {p part x : Nat} {r : List Int} (hx : x < r.length) : (takeP p part r).getD x 0 = r.getD x 0 - r.getD part 0 * ((orb p part x : Nat) : Int) := by
  unfold takeP
  split
  · rename_i h
    rw [h, Int.zero_mul, Int.sub_zero]
  · exact sub_fold _ _ hx
def rp (p x : Nat) : Nat := (x + 30 / p * ((29 + p - x) % p)) % 30
theorem orb_eq : ∀ p ∈ [2, 3, 5], ∀ i, i < 30 / p → ∀ x, x < 30 → orb p (p - 1 + i * p) x = if p - 1 + i * p = rp p x then 1 else 0 := by decide +kernel
theorem rp_part : ∀ p ∈ [2, 3, 5], ∀ x, x < 30 → ∃ i, i < 30 / p ∧ p - 1 + i * p = rp p x := by decide +kernel
theorem part_lt : ∀ p ∈ [2, 3, 5], ∀ i, i < 30 / p → p - 1 + i * p < 30 := by decide +kernel
theorem rp_self : ∀ p ∈ [2, 3, 5], ∀ i, i < 30 / p → rp p (p - 1 + i * p) = p - 1 + i * p := by decide +kernel
theorem prime_fold {p : Nat} (hp : p ∈ [2, 3, 5]) {r : List Int} (hr : r.length = 30) : ∀ n : Nat, n ≤ 30 / p → ∀ x, x < 30 →
    ((List.range n).foldl (fun s i => takeP p (p - 1 + i * p) s) r).getD x 0 = r.getD x 0 - (if ∃ i, i < n ∧ p - 1 + i * p = rp p x then r.getD (rp p x) 0 else 0)
  | 0, _, x, _ => by
    rw [if_neg (by rintro ⟨i, hi, _⟩; omega)]
    show r.getD x 0 = r.getD x 0 - 0
    omega
  | n + 1, hn, x, hx => by
    have hl : ((List.range n).foldl (fun s i => takeP p (p - 1 + i * p) s) r).length = 30 := by
      rw [foldl_len (fun s k => takeP_len _ _ _), hr]
    have p2 : 0 < p := by
      have : ∀ p ∈ [2, 3, 5], 0 < p := by decide
      exact this p hp
    rw [range_fold, takeP_get (by rw [hl]; exact hx), prime_fold hp hr n (by omega) x hx, prime_fold hp hr n (by omega) _ (part_lt p hp n (by omega)), orb_eq p hp n (by omega) x hx, rp_self p hp n (by omega)]
    have hne : ¬ ∃ i, i < n ∧ p - 1 + i * p = p - 1 + n * p := by
      rintro ⟨i, hi, e⟩
      have : i * p = n * p := by omega
      have := Nat.eq_of_mul_eq_mul_right p2 this
      omega
    rw [if_neg hne]
    by_cases h : p - 1 + n * p = rp p x
    · have h1 : ¬ ∃ i, i < n ∧ p - 1 + i * p = rp p x := by
        rw [← h]
        exact hne
      have h2 : ∃ i, i < n + 1 ∧ p - 1 + i * p = rp p x := ⟨n, by omega, h⟩
      rw [if_neg h1, if_pos h2, if_pos h, h]
      omega
    · rw [if_neg h]
      by_cases h1 : ∃ i, i < n ∧ p - 1 + i * p = rp p x
      · obtain ⟨i, hi, e⟩ := h1
        rw [if_pos ⟨i, hi, e⟩, if_pos ⟨i, by omega, e⟩]
        omega
      · have h2 : ¬ ∃ i, i < n + 1 ∧ p - 1 + i * p = rp p x := by
          rintro ⟨i, hi, e⟩
          rcases Nat.lt_or_ge i n with h3 | h3
          · exact h1 ⟨i, h3, e⟩
          · have : i = n := by omega
            rw [this] at e
            exact h e
        rw [if_neg h1, if_neg h2]
        omega
theorem primeP_get {p : Nat} (hp : p ∈ [2, 3, 5]) {r : List Int} (hr : r.length = 30) {x : Nat} (hx : x < 30) : (primeP r p).getD x 0 = r.getD x 0 - r.getD (rp p x) 0 := by
  unfold primeP
  rw [prime_fold hp hr _ (Nat.le_refl _) x hx, if_pos (rp_part p hp x hx)]
/-! ### the same of functions that repeat by 30 -/
def frow (r : List Int) : Fn := fun x => r.getD (x % 30).toNat 0
def rpZ (p : Nat) (x : Int) : Int := x + ((30 / p : Nat) : Int) * (((p : Int) - 1 - x) % (p : Int))
def Tp (p : Nat) (f : Fn) : Fn := fun x => f x - f (rpZ p x)
theorem frow_prime {p : Nat} (hp : p ∈ [2, 3, 5]) {r : List Int} (hr : r.length = 30) : frow (primeP r p) = Tp p (frow r) := by
  funext x
  unfold frow Tp
  have h0 := Int.emod_nonneg x (show (30 : Int) ≠ 0 by decide)
  have h1 := Int.emod_lt_of_pos x (show (0 : Int) < 30 by decide)
  rw [primeP_get hp hr (by omega)]
  have e : rp p (x % 30).toNat = (rpZ p x % 30).toNat := by
    unfold rp rpZ
    have hc : p = 2 ∨ p = 3 ∨ p = 5 := by simpa using hp
    rcases hc with e | e | e <;> subst e
    · show ((x % 30).toNat + 15 * ((31 - (x % 30).toNat) % 2)) % 30 = ((x + 15 * (((2 : Int) - 1 - x) % 2)) % 30).toNat
      omega
    · show ((x % 30).toNat + 10 * ((32 - (x % 30).toNat) % 3)) % 30 = ((x + 10 * (((3 : Int) - 1 - x) % 3)) % 30).toNat
      omega
    · show ((x % 30).toNat + 6 * ((34 - (x % 30).toNat) % 5)) % 30 = ((x + 6 * (((5 : Int) - 1 - x) % 5)) % 30).toNat
      omega
  rw [e]
abbrev K30 (f : Fn) : Fn := Tp 5 (Tp 3 (Tp 2 f))
theorem frow_kept {r : List Int} (hr : r.length = 30) : frow (keptL r) = K30 (frow r) := by
  have h2 : (primeP r 2).length = 30 := by rw [primeP_len, hr]
  have h3 : (primeP (primeP r 2) 3).length = 30 := by rw [primeP_len, h2]
  rw [keptL_eq, List.foldl_cons, List.foldl_cons, List.foldl_cons, List.foldl_nil]
  rw [frow_prime (p := 5) (by decide) h3, frow_prime (p := 3) (by decide) h2, frow_prime (p := 2) (by decide) hr]
theorem per30 {f : Fn} (h : Per 30 f) {a b : Int} (e : a % 30 = b % 30) : f a = f b := by
  have h1 := h.mulZ ((a - b) / 30) a
  rw [← h1]
  congr 1
  show a - 30 * ((a - b) / 30) = b
  omega
theorem Per.tp {f : Fn} (h : Per 30 f) {p : Nat} (hp : p = 2 ∨ p = 3 ∨ p = 5) : Per 30 (Tp p f) := fun x => by
  show f (x - 30) - f (rpZ p (x - 30)) = f x - f (rpZ p x)
  have e1 : f (x - 30) = f x := h x
  have e2 : f (rpZ p (x - 30)) = f (rpZ p x) := by
    refine per30 h ?_
    unfold rpZ
    rcases hp with e | e | e <;> subst e
    · show (x - 30 + 15 * (((2 : Int) - 1 - (x - 30)) % 2)) % 30 = (x + 15 * (((2 : Int) - 1 - x) % 2)) % 30
      omega
    · show (x - 30 + 10 * (((3 : Int) - 1 - (x - 30)) % 3)) % 30 = (x + 10 * (((3 : Int) - 1 - x) % 3)) % 30
      omega
    · show (x - 30 + 6 * (((5 : Int) - 1 - (x - 30)) % 5)) % 30 = (x + 6 * (((5 : Int) - 1 - x) % 5)) % 30
      omega
  rw [e1, e2]
theorem tp_keep {f : Fn} (h : Per 30 f) {p : Nat} (hp : p = 2 ∨ p = 3 ∨ p = 5) : Sd (30 / p) (Tp p f) = Sd (30 / p) f := by
  funext x
  have e2 : f (rpZ p (x - ((30 / p : Nat) : Int))) = f (rpZ p x) := by
    refine per30 h ?_
    unfold rpZ
    rcases hp with e | e | e <;> subst e
    · show (x - 15 + 15 * (((2 : Int) - 1 - (x - 15)) % 2)) % 30 = (x + 15 * (((2 : Int) - 1 - x) % 2)) % 30
      omega
    · show (x - 10 + 10 * (((3 : Int) - 1 - (x - 10)) % 3)) % 30 = (x + 10 * (((3 : Int) - 1 - x) % 3)) % 30
      omega
    · show (x - 6 + 6 * (((5 : Int) - 1 - (x - 6)) % 5)) % 30 = (x + 6 * (((5 : Int) - 1 - x) % 5)) % 30
      omega
  show (f (x - ((30 / p : Nat) : Int)) - f (rpZ p (x - ((30 / p : Nat) : Int)))) - (f x - f (rpZ p x)) = f (x - ((30 / p : Nat) : Int)) - f x
  rw [e2]
  omega
theorem tp_zero {f : Fn} {p : Nat} (h : ∀ x, Sd (30 / p) f x = 0) : ∀ x, Tp p f x = 0 := fun x => by
  have h1 := (per_sd h).mulZ (-(((p : Int) - 1 - x) % (p : Int))) x
  show f x - f (rpZ p x) = 0
  unfold rpZ
  rw [show x - ((30 / p : Nat) : Int) * -(((p : Int) - 1 - x) % (p : Int)) = x + ((30 / p : Nat) : Int) * (((p : Int) - 1 - x) % (p : Int)) by rw [Int.mul_neg]; omega] at h1
  rw [h1]
  omega
theorem tp_sd (f : Fn) {p d : Nat} (h : d % p = 0) : Tp p (Sd d f) = Sd d (Tp p f) := by
  funext x
  have e : rpZ p (x - (d : Int)) = rpZ p x - d := by
    unfold rpZ
    have e1 : ((p : Int) - 1 - (x - (d : Int))) % (p : Int) = ((p : Int) - 1 - x) % (p : Int) := by
      obtain ⟨k, hk⟩ := Nat.dvd_of_mod_eq_zero h
      rw [hk, Int.natCast_mul, show (p : Int) - 1 - (x - (p : Int) * (k : Int)) = ((p : Int) - 1 - x) + (p : Int) * (k : Int) by omega, Int.add_mul_emod_self_left]
    rw [e1]
    omega
  show (f (x - d) - f x) - (f (rpZ p x - d) - f (rpZ p x)) = (f (x - d) - f (rpZ p (x - d))) - (f x - f (rpZ p x))
  rw [e]
  omega
theorem tp_sub (p : Nat) (f g : Fn) : Tp p (fun x => f x - g x) = fun x => Tp p f x - Tp p g x := by
  funext x
  show (f x - g x) - (f (rpZ p x) - g (rpZ p x)) = (f x - f (rpZ p x)) - (g x - g (rpZ p x))
  omega
theorem K30_sub (f g : Fn) : K30 (fun x => f x - g x) = fun x => K30 f x - K30 g x := by
  unfold K30
  rw [tp_sub, tp_sub, tp_sub]
theorem K30_iff {f : Fn} (h : Per 30 f) : (∀ x, K30 f x = 0) ↔ ∀ x, Op [15, 10, 6] f x = 0 := by
  have h2 := h.tp (p := 2) (.inl rfl)
  have h3 := h2.tp (p := 3) (.inr (.inl rfl))
  constructor
  · intro h0
    have e1 : Op [15, 10, 6] (K30 f) = Op [15, 10, 6] (Tp 3 (Tp 2 f)) := congrArg (fun g => Sd 15 (Sd 10 g)) (tp_keep h3 (p := 5) (.inr (.inr rfl)))
    have e2 : Op [15, 10, 6] (Tp 3 (Tp 2 f)) = Op [15, 10, 6] (Tp 2 f) := by
      rw [Op_perm (show [15, 10, 6].Perm [15, 6, 10] from .cons _ (.swap _ _ _))]
      rw [Op_perm (show [15, 10, 6].Perm [15, 6, 10] from .cons _ (.swap _ _ _)) (Tp 2 f)]
      exact congrArg (fun g => Sd 15 (Sd 6 g)) (tp_keep h2 (p := 3) (.inr (.inl rfl)))
    have e3 : Op [15, 10, 6] (Tp 2 f) = Op [15, 10, 6] f := by
      have pm : [15, 10, 6].Perm [10, 6, 15] := List.perm_append_comm (l₁ := [15]) (l₂ := [10, 6])
      rw [Op_perm pm, Op_perm pm f]
      exact congrArg (fun g => Sd 10 (Sd 6 g)) (tp_keep h (p := 2) (.inl rfl))
    rw [← e3, ← e2, ← e1]
    exact Op_zero' _ h0
  · intro h0
    have a1 : ∀ x, Tp 2 (Sd 10 (Sd 6 f)) x = 0 := tp_zero (p := 2) h0
    rw [tp_sd _ (show 10 % 2 = 0 from rfl), tp_sd _ (show 6 % 2 = 0 from rfl)] at a1
    have a2 : ∀ x, Tp 3 (Sd 6 (Tp 2 f)) x = 0 := tp_zero (p := 3) a1
    rw [tp_sd _ (show 6 % 3 = 0 from rfl)] at a2
    exact tp_zero (p := 5) a2
end K31

set_option Elab.async false
set_option linter.all false
set_option maxRecDepth 100000
set_option maxHeartbeats 1000000
namespace K31
open PySem PySem.Spec PyProof.Rows L2
/-! ### the written form -/
def val (f : List (Turn × List Int)) (c : Turn) (q : Nat) : Int := ((aGet f c).getD []).getD q 0
theorem find_keys {α β : Type} (g : Turn × α → Turn × β) (hg : ∀ e, (g e).1 = e.1) (c : Turn) : ∀ f : List (Turn × α), (f.map g).find? (fun p => decide (p.1 = c)) = (f.find? fun p => decide (p.1 = c)).map g
  | [] => rfl
  | e :: f => by
    rw [List.map_cons, List.find?_cons, List.find?_cons, hg, find_keys g hg c f]
    cases decide (e.1 = c) <;> rfl
theorem aGet_setRow (c c' : Turn) (j : Nat) (n : Int) (f : List (Turn × List Int)) : aGet (setRow c j n f) c' = if c' = c then (aGet f c').map (fun r => r.set j n) else aGet f c' := by
  unfold aGet setRow
  rw [find_keys (fun e : Turn × List Int => if e.1 = c then (e.1, e.2.set j n) else e) (fun e => by split <;> rfl)]
  cases hf : f.find? fun p => decide (p.1 = c') with
  | none => by_cases h : c' = c <;> simp [h]
  | some e =>
    have he : e.1 = c' := of_decide_eq_true (List.find?_some (p := fun p : Turn × List Int => decide (p.1 = c')) hf)
    by_cases h : c' = c
    · rw [if_pos h]
      simp [he, h]
    · rw [if_neg h]
      simp [he, h]
theorem aGet_none {α : Type} {f : List (Turn × α)} {c : Turn} (h : c ∉ f.map Prod.fst) : aGet f c = none := by
  have := aGet_isSome (d := f) (t := c)
  rw [decide_eq_false h] at this
  exact Option.isSome_eq_false_iff.mp this |> Option.isNone_iff_eq_none.mp
theorem val_addRow (c c' : Turn) (f : List (Turn × List Int)) {q : Nat} (hq : q < 30) : val (addRow c f) c' q = val f c' q := by
  unfold addRow
  split
  · rfl
  · rename_i h
    unfold val aGet
    rw [List.find?_append]
    cases hf : f.find? fun p => decide (p.1 = c') with
    | some e => rfl
    | none =>
      rw [Option.none_or, List.find?_cons]
      by_cases hc : c = c'
      · rw [decide_eq_true hc]
        show ((List.replicate 30 (0 : Int)).getD q 0) = ([] : List Int).getD q 0
        rw [List.getD_eq_getElem?_getD, List.getElem?_replicate, if_pos hq]
        rfl
      · rw [decide_eq_false hc]
        rfl
theorem full_get {f : List (Turn × List Int)} (h : Full f) {c : Turn} {r : List Int} (hr : aGet f c = some r) : r.length = 30 := h _ (aGet_mem hr)
theorem stepR_val {f : List (Turn × List Int)} (hf : Full f) {t c : Turn} {v : Int} {q : Nat} (hq : q < 30) (hp : 0 ≤ partOf t ∧ partOf t < 30) : val (stepR f (t, v)) c q = if clsOf t = c ∧ (partOf t).toNat = q then v else val f c q := by
  rw [← val_addRow (clsOf t) c f hq]
  unfold stepR val
  rw [aGet_setRow]
  by_cases hc : c = clsOf t
  · rw [if_pos hc]
    obtain ⟨r, hr⟩ : ∃ r, aGet (addRow (clsOf t) f) c = some r := by
      have := aGet_isSome (d := addRow (clsOf t) f) (t := c)
      rw [hc, decide_eq_true (addRow_mem _ _)] at this
      rw [hc]
      exact Option.isSome_iff_exists.mp this
    have hl := full_get (addRow_full hf) hr
    rw [hr]
    show (r.set (partOf t).toNat v).getD q 0 = if clsOf t = c ∧ (partOf t).toNat = q then v else r.getD q 0
    rw [List.getD_eq_getElem?_getD, List.getElem?_set]
    by_cases hj : (partOf t).toNat = q
    · rw [if_pos hj, if_pos (by omega), if_pos ⟨hc.symm, hj⟩]
      rfl
    · rw [if_neg hj, if_neg (fun h => hj h.2), List.getD_eq_getElem?_getD]
  · rw [if_neg hc, if_neg (fun h => hc h.1.symm)]
theorem rows_val {c : Turn} {q : Nat} {v : Int} (hq : q < 30) : ∀ (d : List (Turn × Int)) (f : List (Turn × List Int)), Full f → (∀ e ∈ d, 0 ≤ partOf e.1 ∧ partOf e.1 < 30) → (∀ e ∈ d, clsOf e.1 = c → (partOf e.1).toNat = q → e.2 = v) →
    ((∃ e ∈ d, clsOf e.1 = c ∧ (partOf e.1).toNat = q) → val (d.foldl stepR f) c q = v) ∧ ((¬ ∃ e ∈ d, clsOf e.1 = c ∧ (partOf e.1).toNat = q) → val (d.foldl stepR f) c q = val f c q)
  | [], f, _, _, _ => ⟨fun ⟨_, h, _⟩ => (by simp at h), fun _ => rfl⟩
  | e :: d, f, hf, hp, hv => by
    have hf2 : Full (stepR f e) := setRow_full (addRow_full hf)
    obtain ⟨i1, i2⟩ := rows_val hq d (stepR f e) hf2 (fun a ha => hp a (List.mem_cons_of_mem _ ha)) (fun a ha => hv a (List.mem_cons_of_mem _ ha))
    have hs := stepR_val hf (t := e.1) (c := c) (v := e.2) hq (hp e List.mem_cons_self)
    rw [List.foldl_cons]
    constructor
    · intro h
      by_cases hd : ∃ a ∈ d, clsOf a.1 = c ∧ (partOf a.1).toNat = q
      · exact i1 hd
      · obtain ⟨a, ha, h1, h2⟩ := h
        rcases List.mem_cons.mp ha with z | z
        · rw [i2 hd]
          rw [z] at h1 h2
          have e1 : val (stepR f e) c q = e.2 := hs.trans (if_pos ⟨h1, h2⟩)
          rw [e1]
          exact hv e List.mem_cons_self h1 h2
        · exact absurd ⟨a, z, h1, h2⟩ hd
    · intro h
      rw [i2 fun ⟨a, ha, h1⟩ => h ⟨a, List.mem_cons_of_mem _ ha, h1⟩]
      exact hs.trans (if_neg fun h1 => h ⟨e, List.mem_cons_self, h1⟩)
section
variable {M mm : Nat}
theorem Tk_form (hM : 0 < M) (k : Int) : ∃ g x y : Int, 0 < g ∧ k % (M : Int) = g * x ∧ (M : Int) = g * y ∧ 0 < y ∧ Tk M k = (x, y) := by
  have hM' : (0 : Int) < M := by omega
  have hg := gcd_pos (a := k % (M : Int)) hM'
  obtain ⟨x, hx⟩ := Int.gcd_dvd_left (k % (M : Int)) (M : Int)
  obtain ⟨y, hy⟩ := Int.gcd_dvd_right (k % (M : Int)) (M : Int)
  have e : Tk M k = (x, y) := by
    show fracOf (k % (M : Int)) (M : Int) = (x, y)
    unfold fracOf
    generalize hgg : (Int.gcd (k % (M : Int)) (M : Int) : Int) = g at *
    rw [show k % (M : Int) / g = x by rw [hx, Int.mul_ediv_cancel_left _ (by omega)], show (M : Int) / g = y by rw [hy, Int.mul_ediv_cancel_left _ (by omega)]]
  have hpos := (isTurn_T hM' k).1
  rw [e] at hpos
  exact ⟨_, x, y, hg, hx, hy, hpos, e⟩
theorem part_T (hm : 0 < mm) (hM : M = 30 * mm) (k : Int) : partOf (Tk M k) = k % (M : Int) / (mm : Int) := by
  obtain ⟨g, x, y, hg, hx, hy, hy0, e⟩ := Tk_form (M := M) (by omega) k
  rw [e]
  show 30 * x / y = _
  rw [← Int.mul_ediv_mul_of_pos (30 * x) y hg, show g * (30 * x) = 30 * (k % (M : Int)) by rw [hx]; grind, ← hy, hM, Int.natCast_mul, show ((30 : Nat) : Int) = 30 from rfl, Int.mul_ediv_mul_of_pos _ _ (by decide)]
theorem frac30 (q : Int) : 0 < (fracOf q 30).2 ∧ (fracOf q 30).1 * 30 = q * (fracOf q 30).2 := by
  have hg := gcd_pos (a := q) (b := 30) (by decide)
  obtain ⟨x, hx⟩ := Int.gcd_dvd_left q 30
  obtain ⟨y, hy⟩ := Int.gcd_dvd_right q 30
  unfold fracOf
  generalize (Int.gcd q 30 : Int) = g at *
  have e1 : q / g = x := by rw [hx, Int.mul_ediv_cancel_left _ (by omega)]
  have e2 : (30 : Int) / g = y := by rw [hy, Int.mul_ediv_cancel_left _ (by omega)]
  rw [e1, e2]
  have hy0 : 0 < y := by
    rcases Int.lt_trichotomy y 0 with h | h | h
    · have := Int.mul_neg_of_pos_of_neg hg h
      omega
    · rw [h] at hy
      omega
    · exact h
  refine ⟨hy0, ?_⟩
  show x * 30 = q * y
  rw [hx]
  rw [show x * 30 = x * (g * y) by rw [← hy]]
  grind
theorem Tk_low {r : Int} (h0 : 0 ≤ r) (h1 : r < (M : Int)) : Tk M r = fracOf r M := by
  show fracOf (r % (M : Int)) M = _
  rw [Int.emod_eq_of_lt h0 h1]
theorem rep0 (hM : 0 < M) {k : Int} (h0 : 0 ≤ k) (h1 : k < (M : Int)) : 0 < (Tk M k).2 ∧ (Tk M k).1 * (M : Int) = k * (Tk M k).2 := by
  obtain ⟨g, x, y, hg, hx, hy, hy0, e⟩ := Tk_form hM k
  rw [Int.emod_eq_of_lt h0 h1] at hx
  rw [e]
  refine ⟨hy0, ?_⟩
  show x * (M : Int) = k * y
  rw [hx, hy]
  grind
theorem cls_T (hm : 0 < mm) (hM : M = 30 * mm) (k : Int) : clsOf (Tk M k) = Tk M (k % (M : Int) % (mm : Int)) := by
  have hM0 : 0 < M := by omega
  have k0 := Int.emod_nonneg k (show (M : Int) ≠ 0 by omega)
  have k1 := Int.emod_lt_of_pos k (show (0 : Int) < M by omega)
  have e0 : Tk M k = Tk M (k % (M : Int)) := Tk_mod (by omega) (by rw [Int.emod_emod])
  have hp := part_T hm hM k
  unfold clsOf
  rw [hp, e0]
  generalize k % (M : Int) = a at *
  obtain ⟨t0, t1⟩ := rep0 hM0 k0 k1
  obtain ⟨f0, f1⟩ := frac30 (a / (mm : Int))
  have ea := Int.mul_ediv_add_emod a (mm : Int)
  have r0 := Int.emod_nonneg a (show (mm : Int) ≠ 0 by omega)
  have r1 := Int.emod_lt_of_pos a (show (0 : Int) < mm by omega)
  rw [Tk_low (r := a % (mm : Int)) r0 (by omega)]
  unfold fracDiff
  refine fracOf_eq (Int.mul_pos t0 f0) (by omega) ?_
  generalize fracOf (a / (mm : Int)) 30 = f at *
  generalize Tk M a = t at *
  generalize a / (mm : Int) = q at *
  generalize a % (mm : Int) = r at *
  have eM : (M : Int) = 30 * (mm : Int) := by omega
  have h1 : (t.1 * f.2 - f.1 * t.2) * (M : Int) = t.1 * (M : Int) * f.2 - (f.1 * 30) * t.2 * (mm : Int) := by
    rw [eM]
    grind
  rw [h1, t1, f1, ← ea]
  grind
theorem turnIn_T (hm : 0 < mm) (hM : M = 30 * mm) {q r : Int} (q0 : 0 ≤ q) (q1 : q < 30) (r0 : 0 ≤ r) (r1 : r < (mm : Int)) : turnIn q (Tk M r) = Tk M (q * (mm : Int) + r) := by
  have hM0 : 0 < M := by omega
  obtain ⟨t0, t1⟩ := rep0 (M := M) hM0 r0 (by omega)
  obtain ⟨f0, f1⟩ := frac30 q
  have hq : q * (mm : Int) ≤ 29 * (mm : Int) := Int.mul_le_mul_of_nonneg_right (by omega) (by omega)
  have hq0 : 0 ≤ q * (mm : Int) := Int.mul_nonneg q0 (by omega)
  rw [Tk_low (r := q * (mm : Int) + r) (by omega) (by omega)]
  unfold turnIn fracSum
  refine fracOf_eq (Int.mul_pos f0 t0) (by omega) ?_
  generalize fracOf q 30 = f at *
  generalize Tk M r = t at *
  have eM : (M : Int) = 30 * (mm : Int) := by omega
  have h1 : (f.1 * t.2 + t.1 * f.2) * (M : Int) = (f.1 * 30) * t.2 * (mm : Int) + t.1 * (M : Int) * f.2 := by
    rw [eM]
    grind
  rw [h1, t1, f1]
  grind
theorem Tk_eq_iff (hM : 0 < M) {i j : Int} : Tk M i = Tk M j ↔ (M : Int) ∣ (i - j) := by
  constructor
  · intro h
    exact Int.dvd_of_emod_eq_zero (Int.emod_eq_emod_iff_emod_sub_eq_zero.mp (Tk_inj (by omega) h))
  · intro h
    exact Tk_mod (by omega) (Int.emod_eq_emod_iff_emod_sub_eq_zero.mpr (Int.emod_eq_zero_of_dvd h))
theorem count_T (hM : 0 < M) (ks : List Int) (x : Int) : (((tl M ks).count (Tk M x) : Nat) : Int) = cnt M ks x := by
  unfold tl cnt
  rw [(inOrder_perm _).count_eq, List.count, List.countP_map]
  congr 1
  refine List.countP_congr fun k _ => ?_
  show (Tk M k == Tk M x) = true ↔ _
  rw [beq_iff_eq, decide_eq_true_eq, Tk_eq_iff hM]
  constructor
  · intro h
    have := Int.dvd_neg.mpr h
    rw [Int.neg_sub] at this
    exact this
  · intro h
    have := Int.dvd_neg.mpr h
    rw [Int.neg_sub] at this
    exact this
end
end K31

set_option Elab.async false
set_option linter.all false
set_option maxRecDepth 100000
set_option maxHeartbeats 1000000
namespace K31
open PySem PySem.Spec PyProof.Rows L2
section
variable {M mm : Nat}
/-- one class of a sum, by parts -/
def cls (mm : Nat) (F : Fn) (r : Int) : Fn := fun q => F (q * (mm : Int) + r)
theorem cls_per (hM : M = 30 * mm) {F : Fn} (h : Per M F) (r : Int) : Per 30 (cls mm F r) := fun q => by
  show F ((q - ((30 : Nat) : Int)) * (mm : Int) + r) = F (q * (mm : Int) + r)
  rw [← h (q * (mm : Int) + r)]
  congr 1
  rw [hM, Int.natCast_mul]
  grind
theorem cls_op (r : Int) : ∀ (ds : List Nat) (F : Fn) (q : Int), Op ds (cls mm F r) q = Op (ds.map fun d => d * mm) F (q * (mm : Int) + r)
  | [], F, q => rfl
  | d :: ds, F, q => by
    show Op ds (cls mm F r) (q - d) - Op ds (cls mm F r) q = Op (ds.map fun d => d * mm) F (q * (mm : Int) + r - ((d * mm : Nat) : Int)) - Op (ds.map fun d => d * mm) F (q * (mm : Int) + r)
    rw [cls_op r ds F q, cls_op r ds F (q - d)]
    rw [show (q - (d : Int)) * (mm : Int) + r = q * (mm : Int) + r - ((d * mm : Nat) : Int) by rw [Int.natCast_mul]; grind]
theorem shs_mm (hm : 0 < mm) (hM : M = 30 * mm) : shs M [2, 3, 5] = [15, 10, 6].map fun d => d * mm := by
  show [M / 2, M / 3, M / 5] = [15 * mm, 10 * mm, 6 * mm]
  rw [hM, show 30 * mm = 2 * (15 * mm) by omega, Nat.mul_div_cancel_left _ (by decide), show 2 * (15 * mm) = 3 * (10 * mm) by omega, Nat.mul_div_cancel_left _ (by decide), show 3 * (10 * mm) = 5 * (6 * mm) by omega, Nat.mul_div_cancel_left _ (by decide)]
theorem K30_Kop (hm : 0 < mm) (hM : M = 30 * mm) {F : Fn} (h : Per M F) : (∀ r, 0 ≤ r → r < (mm : Int) → ∀ q, K30 (cls mm F r) q = 0) ↔ ∀ x, Kop M F x = 0 := by
  constructor
  · intro h0 x
    have r0 := Int.emod_nonneg x (show (mm : Int) ≠ 0 by omega)
    have r1 := Int.emod_lt_of_pos x (show (0 : Int) < mm by omega)
    have h1 := (K30_iff (cls_per hM h (x % (mm : Int)))).mp (h0 _ r0 r1) (x / (mm : Int))
    rw [cls_op, ← shs_mm hm hM] at h1
    rw [show x / (mm : Int) * (mm : Int) + x % (mm : Int) = x by rw [Int.mul_comm]; exact Int.mul_ediv_add_emod x _] at h1
    exact h1
  · intro h0 r r0 r1
    refine (K30_iff (cls_per hM h r)).mpr fun q => ?_
    rw [cls_op, ← shs_mm hm hM]
    exact h0 _
theorem tl_isT {ks : List Int} {t : Turn} (h : t ∈ tl M ks) : ∃ k ∈ ks, t = Tk M k := tl_mem h
theorem part_bd (hm : 0 < mm) (hM : M = 30 * mm) (k : Int) : 0 ≤ partOf (Tk M k) ∧ partOf (Tk M k) < 30 := by
  rw [part_T hm hM]
  have k0 := Int.emod_nonneg k (show (M : Int) ≠ 0 by omega)
  have k1 := Int.emod_lt_of_pos k (show (0 : Int) < M by omega)
  refine ⟨Int.ediv_nonneg k0 (by omega), Int.ediv_lt_of_lt_mul (by omega) ?_⟩
  omega
theorem rows_T (hm : 0 < mm) (hM : M = 30 * mm) (ks : List Int) {r : Int} (r0 : 0 ≤ r) (r1 : r < (mm : Int)) {q : Nat} (hq : q < 30) : val (rowsD (cntD (tl M ks))) (Tk M r) q = cnt M ks ((q : Int) * (mm : Int) + r) := by
  have hM0 : 0 < M := by omega
  obtain ⟨h1, h2, h3, h4⟩ := cntD_ok (tl M ks)
  have hx : ∀ k : Int, clsOf (Tk M k) = Tk M r → (partOf (Tk M k)).toNat = q → Tk M k = Tk M ((q : Int) * (mm : Int) + r) := fun k hc hp => by
    have hb := part_bd hm hM k
    rw [cls_T hm hM] at hc
    rw [part_T hm hM] at hp hb
    have k0 := Int.emod_nonneg k (show (M : Int) ≠ 0 by omega)
    have k1 := Int.emod_lt_of_pos k (show (0 : Int) < M by omega)
    have s0 := Int.emod_nonneg (k % (M : Int)) (show (mm : Int) ≠ 0 by omega)
    have s1 := Int.emod_lt_of_pos (k % (M : Int)) (show (0 : Int) < mm by omega)
    have e1 := Tk_inj (M := (M : Int)) (by omega) hc
    rw [Int.emod_eq_of_lt s0 (by omega), Int.emod_eq_of_lt r0 (by omega)] at e1
    have e2 := Int.mul_ediv_add_emod (k % (M : Int)) (mm : Int)
    have e3 : k % (M : Int) / (mm : Int) = (q : Int) := by omega
    rw [e1, e3] at e2
    refine Tk_mod (by omega) ?_
    rw [← Int.emod_emod k, ← e2, Int.mul_comm (mm : Int)]
  have hmem : ∀ e ∈ cntD (tl M ks), ∃ k, k ∈ ks ∧ e.1 = Tk M k := fun e he => by
    obtain ⟨k, hk, ek⟩ := tl_mem ((h3 e.1).mp (List.mem_map_of_mem he))
    exact ⟨k, hk, ek⟩
  obtain ⟨i1, i2⟩ := rows_val (c := Tk M r) (q := q) (v := cnt M ks ((q : Int) * (mm : Int) + r)) hq (cntD (tl M ks)) [] (fun e he => by simp at he) (fun e he => by
    obtain ⟨k, _, ek⟩ := hmem e he
    rw [ek]
    exact part_bd hm hM k) (fun e he hc hp => by
    obtain ⟨k, _, ek⟩ := hmem e he
    rw [ek] at hc hp
    have e5 := hx k hc hp
    have e6 := (h4 e.1 e.2 he).1
    rw [ek, e5, count_T hM0] at e6
    exact e6)
  unfold rowsD
  rcases Classical.em (∃ e ∈ cntD (tl M ks), clsOf e.1 = Tk M r ∧ (partOf e.1).toNat = q) with h | h
  · exact i1 h
  · rw [i2 h]
    show (0 : Int) = _
    refine (Classical.byContradiction fun hne => ?_)
    have hne' : cnt M ks ((q : Int) * (mm : Int) + r) ≠ 0 := fun z => hne z.symm
    obtain ⟨k, hk, hd⟩ := cnt_supp hne'
    have eT : Tk M k = Tk M ((q : Int) * (mm : Int) + r) := ((Tk_eq_iff hM0).mpr hd).symm
    have hin : Tk M ((q : Int) * (mm : Int) + r) ∈ tl M ks := by
      rw [← eT]
      exact (inOrder_perm _).mem_iff.mpr (List.mem_map_of_mem hk)
    obtain ⟨e, he, e1⟩ := List.mem_map.mp ((h3 _).mpr hin)
    have hx0 : 0 ≤ (q : Int) * (mm : Int) := Int.mul_nonneg (by omega) (by omega)
    have hx1 : (q : Int) * (mm : Int) ≤ 29 * (mm : Int) := Int.mul_le_mul_of_nonneg_right (by omega) (by omega)
    have em : ((q : Int) * (mm : Int) + r) % (M : Int) = (q : Int) * (mm : Int) + r := Int.emod_eq_of_lt (by omega) (by omega)
    refine h ⟨e, he, ?_, ?_⟩
    · rw [e1, cls_T hm hM, em, Int.add_comm, Int.add_mul_emod_self_right, Int.emod_eq_of_lt r0 r1]
    · rw [e1, part_T hm hM, em, Int.add_comm, Int.add_mul_ediv_right _ _ (by omega), Int.ediv_eq_zero_of_lt r0 r1]
      omega
theorem aGet_kept (ts : List Turn) (c : Turn) : aGet (keptF ts) c = (aGet (rowsD (cntD ts)) c).map keptL := by
  unfold keptF aGet
  rw [find_keys (fun e : Turn × List Int => (e.1, keptL e.2)) (fun e => rfl)]
  cases List.find? (fun p => decide (p.1 = c)) (rowsD (cntD ts)) <;> rfl
theorem kept_T (hm : 0 < mm) (hM : M = 30 * mm) (ks : List Int) {r : Int} (r0 : 0 ≤ r) (r1 : r < (mm : Int)) {q : Nat} (hq : q < 30) : val (keptF (tl M ks)) (Tk M r) q = K30 (cls mm (cnt M ks) r) (q : Int) := by
  have hrow := fun (p : Nat) (hp : p < 30) => rows_T hm hM ks r0 r1 hp
  have per := cls_per hM (cnt_per M ks) r
  have low : ∀ y : Int, cls mm (cnt M ks) r y = cls mm (cnt M ks) r (y % 30) := fun y => per30 per (by omega)
  unfold val at hrow ⊢
  rw [aGet_kept]
  cases hg : aGet (rowsD (cntD (tl M ks))) (Tk M r) with
  | none =>
    rw [hg] at hrow
    have hz : ∀ y, cls mm (cnt M ks) r y = 0 := fun y => by
      rw [low]
      have y0 := Int.emod_nonneg y (show (30 : Int) ≠ 0 by decide)
      have y1 := Int.emod_lt_of_pos y (show (0 : Int) < 30 by decide)
      have := hrow (y % 30).toNat (by omega)
      rw [show ((y % 30).toNat : Int) = y % 30 by omega] at this
      exact this.symm
    have e : cls mm (cnt M ks) r = fun _ => 0 := funext hz
    rw [e]
    rfl
  | some row =>
    rw [hg] at hrow
    have hl : row.length = 30 := full_get (rowsD_ok _).1 hg
    have ef : frow row = cls mm (cnt M ks) r := by
      funext y
      rw [low]
      have y0 := Int.emod_nonneg y (show (30 : Int) ≠ 0 by decide)
      have y1 := Int.emod_lt_of_pos y (show (0 : Int) < 30 by decide)
      have := hrow (y % 30).toNat (by omega)
      rw [show ((y % 30).toNat : Int) = y % 30 by omega] at this
      exact this
    rw [← ef, ← frow_kept hl]
    show (keptL row).getD q 0 = (keptL row).getD ((q : Int) % 30).toNat 0
    rw [show ((q : Int) % 30).toNat = q by omega]
theorem keys_T (hm : 0 < mm) (hM : M = 30 * mm) {ks : List Int} {c : Turn} (h : c ∈ (keptF (tl M ks)).map Prod.fst) : ∃ r, 0 ≤ r ∧ r < (mm : Int) ∧ c = Tk M r := by
  obtain ⟨t, ht, rfl⟩ := keptF_mem.mp h
  obtain ⟨k, _, rfl⟩ := tl_mem ht
  exact ⟨_, Int.emod_nonneg _ (by omega), Int.emod_lt_of_pos _ (by omega), cls_T hm hM k⟩
theorem formAt_T (hm : 0 < mm) (hM : M = 30 * mm) {ks : List Int} {r : Int} (r0 : 0 ≤ r) (r1 : r < (mm : Int)) {q : Nat} (hq : q < 30) {e : Turn × Int} (h : formAt (keptF (tl M ks)) q (Tk M r) = some e) :
    K30 (cls mm (cnt M ks) r) (q : Int) ≠ 0 ∧ e = (Tk M ((q : Int) * (mm : Int) + r), K30 (cls mm (cnt M ks) r) (q : Int)) := by
  have hv := kept_T hm hM ks r0 r1 hq
  unfold val at hv
  unfold formAt at h
  rw [hv] at h
  split at h
  · cases h
  · rename_i hne
    refine ⟨hne, ?_⟩
    rw [turnIn_T hm hM (by omega) (by omega) r0 r1] at h
    exact (Option.some.inj h).symm
theorem form_mem (hm : 0 < mm) (hM : M = 30 * mm) (ks : List Int) (e : Turn × Int) : e ∈ formIn (tl M ks) ↔ ∃ (q : Nat) (r : Int), q < 30 ∧ 0 ≤ r ∧ r < (mm : Int) ∧ K30 (cls mm (cnt M ks) r) (q : Int) ≠ 0 ∧ e = (Tk M ((q : Int) * (mm : Int) + r), K30 (cls mm (cnt M ks) r) (q : Int)) := by
  unfold formIn
  rw [List.mem_flatMap]
  constructor
  · rintro ⟨q, hq, he⟩
    obtain ⟨c, hc, hf⟩ := List.mem_filterMap.mp he
    obtain ⟨r, r0, r1, rfl⟩ := keys_T hm hM ((inOrder_perm _).mem_iff.mp hc)
    have hq' := List.mem_range.mp hq
    obtain ⟨h1, h2⟩ := formAt_T hm hM r0 r1 hq' hf
    exact ⟨q, r, hq', r0, r1, h1, h2⟩
  · rintro ⟨q, r, hq, r0, r1, hne, rfl⟩
    refine ⟨q, List.mem_range.mpr hq, List.mem_filterMap.mpr ⟨Tk M r, (inOrder_perm _).mem_iff.mpr ?_, ?_⟩⟩
    · have hv := kept_T hm hM ks r0 r1 hq
      refine Classical.byContradiction fun hn => hne ?_
      rw [← hv]
      unfold val
      rw [aGet_none hn]
      rfl
    · have hv := kept_T hm hM ks r0 r1 hq
      unfold val at hv
      unfold formAt
      rw [hv, if_neg hne, turnIn_T hm hM (by omega) (by omega) r0 r1]
theorem form_pw (hm : 0 < mm) (hM : M = 30 * mm) (ks : List Int) : (formIn (tl M ks)).Pairwise fun a b => (wt M a.1).toNat < (wt M b.1).toNat := by
  have hM0 : (0 : Int) < M := by omega
  have wq : ∀ (q : Nat) (r : Int), q < 30 → 0 ≤ r → r < (mm : Int) → wt M (Tk M ((q : Int) * (mm : Int) + r)) = (q : Int) * (mm : Int) + r := fun q r hq r0 r1 => by
    have h1 : (q : Int) * (mm : Int) ≤ 29 * (mm : Int) := Int.mul_le_mul_of_nonneg_right (by omega) (by omega)
    have h2 : 0 ≤ (q : Int) * (mm : Int) := Int.mul_nonneg (by omega) (by omega)
    rw [wt_T hM0, Int.emod_eq_of_lt (by omega) (by omega)]
  have get : ∀ (q : Nat), q < 30 → ∀ c ∈ inOrder ((keptF (tl M ks)).map Prod.fst), ∀ e, formAt (keptF (tl M ks)) q c = some e → ∃ r, 0 ≤ r ∧ r < (mm : Int) ∧ c = Tk M r ∧ wt M e.1 = (q : Int) * (mm : Int) + r := fun q hq c hc e he => by
    obtain ⟨r, r0, r1, rfl⟩ := keys_T hm hM ((inOrder_perm _).mem_iff.mp hc)
    obtain ⟨_, h2⟩ := formAt_T hm hM r0 r1 hq he
    exact ⟨r, r0, r1, rfl, by rw [h2]; exact wq q r hq r0 r1⟩
  have allT : ∀ t ∈ (keptF (tl M ks)).map Prod.fst, IsT M t := fun t ht => by
    obtain ⟨r, _, _, e⟩ := keys_T hm hM ht
    exact ⟨r, e⟩
  unfold formIn
  rw [List.pairwise_flatMap]
  constructor
  · intro q hq
    have hq' := List.mem_range.mp hq
    rw [List.pairwise_filterMap]
    have nd : (inOrder ((keptF (tl M ks)).map Prod.fst)).Nodup := (inOrder_perm _).nodup_iff.mpr (keptF_nodup _)
    refine List.Pairwise.imp_of_mem (fun {a b} ha hb hab e he e' he' => ?_) ((inOrder_pw hM0 allT).and nd)
    obtain ⟨r, r0, r1, ea, w1⟩ := get q hq' a ha e he
    obtain ⟨r', r0', r1', eb, w2⟩ := get q hq' b hb e' he'
    have h2 : 0 ≤ (q : Int) * (mm : Int) := Int.mul_nonneg (by omega) (by omega)
    have hle := hab.1
    have hne : a ≠ b := hab.2
    rw [ea, eb, wt_T hM0, wt_T hM0, Int.emod_eq_of_lt r0 (by omega), Int.emod_eq_of_lt r0' (by omega)] at hle
    have hrr : r ≠ r' := fun z => hne (by rw [ea, eb, z])
    rw [w1, w2]
    omega
  · refine List.Pairwise.imp_of_mem (fun {q q'} hq hq' hlt e he e' he' => ?_) List.pairwise_lt_range
    have g1 := List.mem_range.mp hq
    have g2 := List.mem_range.mp hq'
    obtain ⟨a, ha, h1⟩ := List.mem_filterMap.mp he
    obtain ⟨b, hb, h2⟩ := List.mem_filterMap.mp he'
    obtain ⟨r, r0, r1, _, w1⟩ := get q g1 a ha e h1
    obtain ⟨r', r0', r1', _, w2⟩ := get q' g2 b hb e' h2
    have h3 : ((q : Int) + 1) * (mm : Int) ≤ (q' : Int) * (mm : Int) := Int.mul_le_mul_of_nonneg_right (by omega) (by omega)
    have h4 : 0 ≤ (q : Int) * (mm : Int) := Int.mul_nonneg (by omega) (by omega)
    rw [Int.add_mul] at h3
    rw [w1, w2]
    omega
/-- THE WRITTEN FORM: alike exactly if K's differences are -/
theorem form_iff (hm : 0 < mm) (hM : M = 30 * mm) (ks ks' : List Int) : formIn (tl M ks) = formIn (tl M ks') ↔ ∀ x, Kop M (cnt M ks) x = Kop M (cnt M ks') x := by
  have hM0 : 0 < M := by omega
  have e1 : ∀ x, Kop M (fun z => cnt M ks z - cnt M ks' z) x = Kop M (cnt M ks) x - Kop M (cnt M ks') x := fun x => congrFun (Op_sub _ _ _) x
  have hper : Per M (fun z => cnt M ks z - cnt M ks' z) := fun x => by
    show cnt M ks (x - M) - cnt M ks' (x - M) = _
    rw [cnt_per M ks, cnt_per M ks']
  have e2 : ∀ r q, K30 (cls mm (fun z => cnt M ks z - cnt M ks' z) r) q = K30 (cls mm (cnt M ks) r) q - K30 (cls mm (cnt M ks') r) q := fun r q => congrFun (K30_sub (cls mm (cnt M ks) r) (cls mm (cnt M ks') r)) q
  have key := K30_Kop hm hM hper
  have link : (∀ x, Kop M (cnt M ks) x = Kop M (cnt M ks') x) ↔ ∀ r, 0 ≤ r → r < (mm : Int) → ∀ q, K30 (cls mm (cnt M ks) r) q = K30 (cls mm (cnt M ks') r) q := by
    constructor
    · intro h r r0 r1 q
      have := key.mpr (fun x => by rw [e1, h x]; omega) r r0 r1 q
      rw [e2] at this
      omega
    · intro h x
      have := key.mp (fun r r0 r1 q => by rw [e2, h r r0 r1 q]; omega) x
      rw [e1] at this
      omega
  rw [link]
  have xeq : ∀ (q q' : Nat) (r r' : Int), q < 30 → q' < 30 → 0 ≤ r → r < (mm : Int) → 0 ≤ r' → r' < (mm : Int) → Tk M ((q : Int) * (mm : Int) + r) = Tk M ((q' : Int) * (mm : Int) + r') → q = q' ∧ r = r' := fun q q' r r' hq hq' r0 r1 r0' r1' h => by
    have h1 : (q : Int) * (mm : Int) ≤ 29 * (mm : Int) := Int.mul_le_mul_of_nonneg_right (by omega) (by omega)
    have h2 : 0 ≤ (q : Int) * (mm : Int) := Int.mul_nonneg (by omega) (by omega)
    have h1' : (q' : Int) * (mm : Int) ≤ 29 * (mm : Int) := Int.mul_le_mul_of_nonneg_right (by omega) (by omega)
    have h2' : 0 ≤ (q' : Int) * (mm : Int) := Int.mul_nonneg (by omega) (by omega)
    have h3 := Tk_inj (M := (M : Int)) (by omega) h
    rw [Int.emod_eq_of_lt (by omega) (by omega), Int.emod_eq_of_lt (by omega) (by omega)] at h3
    rcases Nat.lt_trichotomy q q' with c | c | c
    · exfalso
      have h4 : ((q : Int) + 1) * (mm : Int) ≤ (q' : Int) * (mm : Int) := Int.mul_le_mul_of_nonneg_right (by omega) (by omega)
      rw [Int.add_mul] at h4
      omega
    · subst c
      exact ⟨rfl, by omega⟩
    · exfalso
      have h4 : ((q' : Int) + 1) * (mm : Int) ≤ (q : Int) * (mm : Int) := Int.mul_le_mul_of_nonneg_right (by omega) (by omega)
      rw [Int.add_mul] at h4
      omega
  constructor
  · intro h r r0 r1 q
    have one : ∀ {a b : List Int}, formIn (tl M a) = formIn (tl M b) → ∀ p : Nat, p < 30 → K30 (cls mm (cnt M a) r) (p : Int) ≠ 0 → K30 (cls mm (cnt M a) r) (p : Int) = K30 (cls mm (cnt M b) r) (p : Int) := fun {a b} hab p hp hne => by
      have hm1 := (form_mem hm hM a _).mpr ⟨p, r, hp, r0, r1, hne, rfl⟩
      rw [hab] at hm1
      obtain ⟨p', r', hp', r0', r1', _, e⟩ := (form_mem hm hM b _).mp hm1
      obtain ⟨rfl, rfl⟩ := xeq p p' r r' hp hp' r0 r1 r0' r1' (congrArg Prod.fst e)
      exact congrArg Prod.snd e
    have pa : Per 30 (K30 (cls mm (cnt M ks) r)) := (((cls_per hM (cnt_per M ks) r).tp (p := 2) (.inl rfl)).tp (p := 3) (.inr (.inl rfl))).tp (p := 5) (.inr (.inr rfl))
    have pb : Per 30 (K30 (cls mm (cnt M ks') r)) := (((cls_per hM (cnt_per M ks') r).tp (p := 2) (.inl rfl)).tp (p := 3) (.inr (.inl rfl))).tp (p := 5) (.inr (.inr rfl))
    rw [per30 pa (show q % 30 = (q % 30) % 30 by omega), per30 pb (show q % 30 = (q % 30) % 30 by omega)]
    obtain ⟨p, hp, ep⟩ : ∃ p : Nat, p < 30 ∧ q % 30 = (p : Int) := ⟨(q % 30).toNat, by omega, by omega⟩
    rw [ep]
    rcases Classical.em (K30 (cls mm (cnt M ks) r) (p : Int) = 0) with z | z
    · rcases Classical.em (K30 (cls mm (cnt M ks') r) (p : Int) = 0) with z' | z'
      · rw [z, z']
      · exact (one h.symm p hp z').symm
    · exact one h p hp z
  · intro h
    refine pw_unique (form_pw hm hM ks) (form_pw hm hM ks') fun e => ?_
    rw [form_mem hm hM, form_mem hm hM]
    constructor
    · rintro ⟨q, r, hq, r0, r1, hne, e⟩
      exact ⟨q, r, hq, r0, r1, by rw [← h r r0 r1]; exact hne, by rw [← h r r0 r1]; exact e⟩
    · rintro ⟨q, r, hq, r0, r1, hne, e⟩
      exact ⟨q, r, hq, r0, r1, by rw [h r r0 r1]; exact hne, by rw [h r r0 r1]; exact e⟩
theorem tl_nil : tl M [] = [] := List.Perm.eq_nil (inOrder_perm (([] : List Int).map (Tk M)))
theorem form_nil0 : formIn [] = [] := by
  have e : inOrder ((keptF []).map Prod.fst) = [] := List.Perm.eq_nil (inOrder_perm _)
  unfold formIn
  rw [e]
  rfl
theorem cnt_nil (x : Int) : cnt M [] x = 0 := rfl
theorem form_nil (hm : 0 < mm) (hM : M = 30 * mm) (ks : List Int) : formIn (tl M ks) = [] ↔ ∀ x, Kop M (cnt M ks) x = 0 := by
  have h := form_iff hm hM ks []
  rw [tl_nil, form_nil0] at h
  rw [h]
  have e : ∀ x, Kop M (cnt M []) x = 0 := Op_zero' _ cnt_nil
  exact ⟨fun g x => by rw [g x, e x], fun g x => by rw [g x, e x]⟩
end
end K31

set_option Elab.async false
set_option linter.all false
set_option maxRecDepth 100000
set_option maxHeartbeats 1000000
namespace K31
open PySem PySem.Spec PyProof.Rows L2
/-! ### sums turned and mirrored -/
theorem cnt_turn (M : Nat) (c : Int) (ks : List Int) (x : Int) : cnt M (ks.map fun k => k + c) x = cnt M ks (x - c) := by
  unfold cnt
  rw [List.countP_map]
  congr 1
  refine List.countP_congr fun k _ => ?_
  show decide ((M : Int) ∣ (x - (k + c))) = true ↔ _
  rw [show x - (k + c) = x - c - k by omega]
theorem cnt_mirror (M : Nat) (c : Int) (ks : List Int) (x : Int) : cnt M (ks.map fun k => c - k) x = cnt M ks (c - x) := by
  unfold cnt
  rw [List.countP_map]
  congr 1
  refine List.countP_congr fun k _ => ?_
  show decide ((M : Int) ∣ (x - (c - k))) = true ↔ _
  rw [decide_eq_true_eq, decide_eq_true_eq, show x - (c - k) = -(c - x - k) by omega, Int.dvd_neg]
def sg : List Nat → Int
  | [] => 1
  | _ :: ds => -sg ds
theorem op_mir (c : Int) : ∀ (ds : List Nat) (F : Fn) (x : Int), Op ds (fun y => F (c - y)) x = sg ds * Op ds F (c - x + ((ds.sum : Nat) : Int))
  | [], F, x => by
    show F (c - x) = 1 * F (c - x + 0)
    rw [Int.one_mul, Int.add_zero]
  | d :: ds, F, x => by
    show Op ds (fun y => F (c - y)) (x - d) - Op ds (fun y => F (c - y)) x = -sg ds * (Op ds F (c - x + (((d :: ds).sum : Nat) : Int) - d) - Op ds F (c - x + (((d :: ds).sum : Nat) : Int)))
    rw [op_mir c ds F x, op_mir c ds F (x - d), List.sum_cons, Int.natCast_add]
    rw [show c - (x - (d : Int)) + ((ds.sum : Nat) : Int) = c - x + ((d : Int) + ((ds.sum : Nat) : Int)) by omega, show c - x + ((d : Int) + ((ds.sum : Nat) : Int)) - (d : Int) = c - x + ((ds.sum : Nat) : Int) by omega]
    grind
theorem Kop_turn (M : Nat) (c : Int) (ks : List Int) (x : Int) : Kop M (cnt M (ks.map fun k => k + c)) x = Kop M (cnt M ks) (x - c) := by
  have e : cnt M (ks.map fun k => k + c) = fun y => cnt M ks (y - c) := funext (cnt_turn M c ks)
  rw [e]
  exact Op_shift c _ _ x
theorem turn_iff (M : Nat) (c : Int) (ks ks' : List Int) : (∀ x, Kop M (cnt M (ks.map fun k => k + c)) x = Kop M (cnt M (ks'.map fun k => k + c)) x) ↔ ∀ x, Kop M (cnt M ks) x = Kop M (cnt M ks') x := by
  constructor
  · intro h x
    have := h (x + c)
    rw [Kop_turn, Kop_turn, show x + c - c = x by omega] at this
    exact this
  · intro h x
    rw [Kop_turn, Kop_turn]
    exact h _
theorem Kop_mirror (M : Nat) (c : Int) (ks : List Int) (x : Int) : Kop M (cnt M (ks.map fun k => c - k)) x = -Kop M (cnt M ks) (c - x + (((shs M [2, 3, 5]).sum : Nat) : Int)) := by
  have e : cnt M (ks.map fun k => c - k) = fun y => cnt M ks (c - y) := funext (cnt_mirror M c ks)
  rw [e]
  have h := op_mir c (shs M [2, 3, 5]) (cnt M ks) x
  have e2 : sg (shs M [2, 3, 5]) = -1 := rfl
  rw [e2, Int.neg_mul, Int.one_mul] at h
  exact h
theorem mirror_iff (M : Nat) (c : Int) (ks ks' : List Int) : (∀ x, Kop M (cnt M (ks.map fun k => c - k)) x = Kop M (cnt M (ks'.map fun k => c - k)) x) ↔ ∀ x, Kop M (cnt M ks) x = Kop M (cnt M ks') x := by
  constructor
  · intro h x
    have := h (c - x + (((shs M [2, 3, 5]).sum : Nat) : Int))
    rw [Kop_mirror, Kop_mirror, show c - (c - x + (((shs M [2, 3, 5]).sum : Nat) : Int)) + (((shs M [2, 3, 5]).sum : Nat) : Int) = x by omega] at this
    omega
  · intro h x
    rw [Kop_mirror, Kop_mirror, h]
/-! ### the places of rows -/
def kz (m : Nat) (w : Int) (rows : List Row) (z : Str) : List Int := (rowsOf rows z).map fun r => r.2 * (m : Int) + w
def fsOf (m : Nat) (w : Int) (rows : List Row) : FP := (namesOf rows).map fun z => (z, kz m w rows z)
theorem namesOf_mem {rows : List Row} {z : Str} (h : z ∈ namesOf rows) : z ∈ names6 ∧ z ∈ rows.map Prod.fst := by
  obtain ⟨h1, h2⟩ := List.mem_filter.mp h
  exact ⟨h1, of_decide_eq_true h2⟩
theorem rowsOf_pos {rows : List Row} {z : Str} (h : z ∈ rows.map Prod.fst) : 1 ≤ (rowsOf rows z).length := by
  obtain ⟨r, hr, e⟩ := List.mem_map.mp h
  exact List.length_pos_of_mem (List.mem_filter.mpr ⟨hr, decide_eq_true e⟩)
theorem rowsOf_nil {rows : List Row} {z : Str} (h : z ∉ rows.map Prod.fst) : rowsOf rows z = [] := by
  unfold rowsOf
  rw [List.filter_eq_nil_iff]
  intro r hr hd
  exact h (by rw [← of_decide_eq_true hd]; exact List.mem_map_of_mem hr)
theorem fsOf_ok {n m : Nat} {w : Int} {rows : List Row} (h : RowsOk n rows) : FOk (fsOf m w rows) := by
  refine ⟨?_, fun x hx => ?_, ?_⟩
  · unfold fsOf namesOf
    rw [List.length_map]
    exact Nat.le_trans (List.length_filter_le _ _) (by decide)
  · obtain ⟨z, hz, rfl⟩ := List.mem_map.mp hx
    obtain ⟨h1, h2⟩ := namesOf_mem hz
    refine ⟨h1, ?_, ?_⟩
    · show 1 ≤ (kz m w rows z).length
      unfold kz
      rw [List.length_map]
      exact rowsOf_pos h2
    · show (kz m w rows z).length ≤ 3
      unfold kz
      rw [List.length_map]
      exact h.2.2 z
  · have e : (fsOf m w rows).map Prod.fst = namesOf rows := by
      unfold fsOf
      rw [List.map_map]
      exact List.map_id' _
    rw [e]
    intro i a b ha hb
    obtain ⟨h1, e1⟩ := List.getElem?_eq_some_iff.mp ha
    obtain ⟨h2, e2⟩ := List.getElem?_eq_some_iff.mp hb
    have hlt := List.pairwise_iff_getElem.mp (namesOf_pw rows) i (i + 1) h1 h2 (by omega)
    rw [e1, e2] at hlt
    have := names_less a (namesOf_mem (List.mem_of_getElem? ha)).1 b (namesOf_mem (List.mem_of_getElem? hb)).1 hlt
    rw [ltCps_lt] at this
    have h9 : a.cps.toList < b.cps.toList := of_decide_eq_true this
    exact h9
theorem place_pl {M n m : Nat} (hM : M = n * m) (hn : 0 < n) (hm : 0 < m) {w : Int} {more : Turn} (hw : more = Tk M w) (rows : List Row) : placeIn rows n more = pl M (fsOf m w rows) := by
  have hM0 : (0 : Int) < M := by
    have := Nat.mul_pos hn hm
    omega
  unfold placeIn pl fsOf
  rw [List.map_map]
  refine List.map_congr_left fun z _ => ?_
  show (z, inOrder ((rowsOf rows z).map (rowT n more))) = (z, tl M (kz m w rows z))
  unfold tl kz
  rw [List.map_map]
  congr 2
  refine List.map_congr_left fun r _ => ?_
  show lawSum (lawLeft r.2 (n : Int)) more = Tk M (r.2 * (m : Int) + w)
  have e : lawLeft r.2 (n : Int) = Tk M (r.2 * (m : Int)) := rep_left hM0 (by omega) ⟨0, by rw [hM, Int.natCast_mul]; grind⟩
  rw [e, hw]
  exact rep_sum hM0 (rep_T hM0 _) (rep_T hM0 _)
theorem fmap_congr {α β : Type} {f g : α → Option β} : ∀ {l : List α}, (∀ a ∈ l, f a = g a) → l.filterMap f = l.filterMap g
  | [], _ => rfl
  | a :: l, h => by
    rw [List.filterMap_cons, List.filterMap_cons, h a List.mem_cons_self, fmap_congr fun b hb => h b (List.mem_cons_of_mem _ hb)]
/-- the written form, name by name -/
def Wn (M : Nat) (k : Str → List Int) : Wr := names6.filterMap fun z => if formIn (tl M (k z)) = [] then none else some (z, formIn (tl M (k z)))
theorem written_pl (M m : Nat) (w : Int) (g : Int → Int) (rows : List Row) : writtenIn (pl M (shF g (fsOf m w rows))) = Wn M fun z => (kz m w rows z).map g := by
  unfold writtenIn pl shF fsOf Wn
  rw [List.map_map, List.map_map, List.filterMap_map]
  unfold namesOf
  rw [List.filterMap_filter]
  refine fmap_congr fun z _ => ?_
  by_cases h : z ∈ rows.map Prod.fst
  · rw [if_pos (decide_eq_true h)]
    rfl
  · rw [if_neg (by rw [decide_eq_true_eq]; exact h)]
    have e : (kz m w rows z).map g = [] := by
      unfold kz
      rw [rowsOf_nil h]
      rfl
    show none = if formIn (tl M ((kz m w rows z).map g)) = [] then none else some (z, formIn (tl M ((kz m w rows z).map g)))
    rw [e, tl_nil, form_nil0, if_pos rfl]
theorem Wn_mem {M : Nat} {k : Str → List Int} {e : Str × List (Turn × Int)} : e ∈ Wn M k ↔ e.1 ∈ names6 ∧ formIn (tl M (k e.1)) ≠ [] ∧ e.2 = formIn (tl M (k e.1)) := by
  unfold Wn
  rw [List.mem_filterMap]
  constructor
  · rintro ⟨z, hz, he⟩
    split at he
    · cases he
    · rename_i hne
      obtain rfl := Option.some.inj he
      exact ⟨hz, hne, rfl⟩
  · rintro ⟨h1, h2, h3⟩
    exact ⟨e.1, h1, by rw [if_neg h2, ← h3]⟩
theorem Wn_iff {M : Nat} {k k' : Str → List Int} : Wn M k = Wn M k' ↔ ∀ z ∈ names6, formIn (tl M (k z)) = formIn (tl M (k' z)) := by
  constructor
  · intro h z hz
    rcases Classical.em (formIn (tl M (k z)) = []) with c | c
    · rcases Classical.em (formIn (tl M (k' z)) = []) with c' | c'
      · rw [c, c']
      · have := (Wn_mem (e := (z, formIn (tl M (k' z))))).mpr ⟨hz, c', rfl⟩
        rw [← h] at this
        exact (Wn_mem.mp this).2.2.symm
    · have := (Wn_mem (e := (z, formIn (tl M (k z))))).mpr ⟨hz, c, rfl⟩
      rw [h] at this
      exact (Wn_mem.mp this).2.2
  · intro h
    unfold Wn
    refine fmap_congr fun z hz => ?_
    rw [h z hz]
theorem Wn_nil {M : Nat} {k : Str → List Int} : Wn M k = [] ↔ ∀ z ∈ names6, formIn (tl M (k z)) = [] := by
  constructor
  · intro h z hz
    refine Classical.byContradiction fun c => ?_
    have := (Wn_mem (M := M) (k := k) (e := (z, formIn (tl M (k z))))).mpr ⟨hz, c, rfl⟩
    rw [h] at this
    cases this
  · intro h
    unfold Wn
    rw [List.filterMap_eq_nil_iff]
    intro z hz
    rw [if_pos (h z hz)]
theorem diffs_zero (n s : Nat) : diffs n s (List.replicate n 0) = List.replicate n 0 := by
  refine List.ext_getElem (by unfold diffs; rw [List.length_map, List.length_range, List.length_replicate]) fun j h1 h2 => ?_
  have hj : j < n := by rw [List.length_replicate] at h2; exact h2
  have hz : ∀ i, (List.replicate n (0 : Int)).getD i 0 = 0 := fun i => by
    rw [List.getD_eq_getElem?_getD, List.getElem?_replicate]
    split <;> rfl
  have e := diffs_get (n := n) (s := s) (f := List.replicate n 0) hj
  rw [List.getD_eq_getElem?_getD, List.getElem?_eq_getElem h1, hz, hz] at e
  rw [List.getElem_replicate]
  exact e
theorem keyL_nil (n : Nat) : keyL n [] = List.replicate n 0 := by
  rw [keyL_eq]
  have : ∀ ps : List Nat, ps.foldl (keyStep n) (List.replicate n 0) = List.replicate n 0 := by
    intro ps
    induction ps with
    | nil => rfl
    | cons p ps ih =>
      rw [List.foldl_cons]
      have e : keyStep n (List.replicate n 0) p = List.replicate n 0 := by
        unfold keyStep
        split
        · exact diffs_zero n _
        · rfl
      rw [e, ih]
  exact this _
def jz (rows : List Row) (z : Str) : List Nat := (rowsOf rows z).map fun r => r.2.toNat
theorem dotOf_key (rows : List Row) (n : Nat) (z : Str) : dotOf rows n z = keyL n (jz rows z) := by
  unfold dotOf jz
  split
  · rename_i h
    rw [h]
    exact (keyL_nil n).symm
  · rfl
theorem dot_iff {rows rows' : List Row} {n : Nat} : dotIn rows n = dotIn rows' n ↔ ∀ z ∈ names6, keyL n (jz rows z) = keyL n (jz rows' z) := by
  unfold dotIn
  constructor
  · intro h z hz
    rw [← dotOf_key, ← dotOf_key]
    exact List.map_inj_left.mp h z hz
  · intro h
    refine List.map_congr_left fun z hz => ?_
    rw [dotOf_key, dotOf_key]
    exact h z hz
theorem kz_jz {n m : Nat} {w : Int} {rows : List Row} (h : RowsOk n rows) (z : Str) : (jz rows z).map (fun j : Nat => (j : Int) * (m : Int) + w) = kz m w rows z := by
  unfold jz kz
  rw [List.map_map]
  refine List.map_congr_left fun r hr => ?_
  have := (h.2.1 r (List.mem_filter.mp hr).1).2.1
  show ((r.2.toNat : Nat) : Int) * (m : Int) + w = r.2 * (m : Int) + w
  rw [show ((r.2.toNat : Nat) : Int) = r.2 by omega]
theorem jz_lt {n : Nat} {rows : List Row} (h : RowsOk n rows) (z : Str) : ∀ j ∈ jz rows z, j < n := fun j hj => by
  obtain ⟨r, hr, rfl⟩ := List.mem_map.mp hj
  have := (h.2.1 r (List.mem_filter.mp hr).1).2
  omega
theorem jz_len {n : Nat} {rows : List Row} (h : RowsOk n rows) (z : Str) : (jz rows z).length ≤ 3 := by
  unfold jz
  rw [List.length_map]
  exact h.2.2 z
theorem kz_len {n m : Nat} {w : Int} {rows : List Row} (h : RowsOk n rows) (z : Str) : (kz m w rows z).length ≤ 3 := by
  unfold kz
  rw [List.length_map]
  exact h.2.2 z
theorem PlB_tu {k : Nat} {p : Pl} {r : Turn} (h : PlB k p) (hr : TOk k r) : PlB (k + k + 1) (turnedIn p r) := by
  refine ⟨by unfold turnedIn; rw [List.length_map]; exact h.1, fun x hx => ?_⟩
  obtain ⟨y, hy, rfl⟩ := List.mem_map.mp hx
  refine ⟨?_, fun t ht => ?_⟩
  · show (inOrder _).length ≤ 3
    rw [(inOrder_perm _).length_eq, List.length_map]
    exact (h.2 y hy).1
  · obtain ⟨t0, h0, rfl⟩ := List.mem_map.mp ((inOrder_perm _).mem_iff.mp ht)
    exact turnSum_ok ((h.2 y hy).2 t0 h0) hr
theorem PlB_mi {k : Nat} {p : Pl} {r : Turn} (h : PlB k p) (hr : TOk k r) : PlB (k + k + 1) (mirroredIn p r) := by
  refine ⟨by unfold mirroredIn; rw [List.length_map]; exact h.1, fun x hx => ?_⟩
  obtain ⟨y, hy, rfl⟩ := List.mem_map.mp hx
  refine ⟨?_, fun t ht => ?_⟩
  · show (inOrder _).length ≤ 3
    rw [(inOrder_perm _).length_eq, List.length_map]
    exact (h.2 y hy).1
  · obtain ⟨t0, h0, rfl⟩ := List.mem_map.mp ((inOrder_perm _).mem_iff.mp ht)
    exact turnDiff_ok hr ((h.2 y hy).2 t0 h0)
theorem wrOk_of {b : Nat} {p : Pl} (h : IsPl p) (hb : PlB b p) (hb3 : b ≤ 300) : WrOk p := ⟨h.1, fun x hx => ⟨(h.2.1 x hx).1, (h.2.1 x hx).2.2.1, fun t ht => ⟨((h.2.1 x hx).2.2.2.1 t ht).1, ((hb.2 x hx).2 t ht).mono hb3⟩⟩⟩
theorem right_all : RightAll := by
  intro n rows others more r s far hn0 hn hok hok2 imore bmore ir br is bs ifar bfar
  -- one bottom for all
  obtain ⟨u, hu⟩ : ∃ u : Nat, (u : Int) = more.2 * r.2 * s.2 * far.2 := ⟨(more.2 * r.2 * s.2 * far.2).toNat, by
    have := Int.mul_pos (Int.mul_pos (Int.mul_pos imore.1 ir.1) is.1) ifar.1
    omega⟩
  have hu0 : 0 < u := by
    have := Int.mul_pos (Int.mul_pos (Int.mul_pos imore.1 ir.1) is.1) ifar.1
    omega
  obtain ⟨m, hm⟩ : ∃ m, m = 30 * u := ⟨_, rfl⟩
  obtain ⟨M, hM⟩ : ∃ M, M = n * m := ⟨_, rfl⟩
  have hm0 : 0 < m := by omega
  have hMN : 0 < M := by
    rw [hM]
    exact Nat.mul_pos hn0 hm0
  have hM0 : (0 : Int) < M := by omega
  have hmm : M = 30 * (n * u) := by
    rw [hM, hm]
    grind
  have hmm0 : 0 < n * u := Nat.mul_pos hn0 hu0
  have eM : (M : Int) = 30 * (n : Int) * (more.2 * r.2 * s.2 * far.2) := by
    rw [← hu, hmm]
    rw [Int.natCast_mul, Int.natCast_mul]
    grind
  obtain ⟨w, hw⟩ : ∃ w, more = Tk M w := ⟨_, isTurn_rep imore (d := 30 * (n : Int) * (r.2 * s.2 * far.2)) (by rw [eM]; grind) hM0⟩
  obtain ⟨cr, hcr⟩ : ∃ w, r = Tk M w := ⟨_, isTurn_rep ir (d := 30 * (n : Int) * (more.2 * s.2 * far.2)) (by rw [eM]; grind) hM0⟩
  obtain ⟨cs, hcs⟩ : ∃ w, s = Tk M w := ⟨_, isTurn_rep is (d := 30 * (n : Int) * (more.2 * r.2 * far.2)) (by rw [eM]; grind) hM0⟩
  obtain ⟨cf, hcf⟩ : ∃ w, far = Tk M w := ⟨_, isTurn_rep ifar (d := 30 * (n : Int) * (more.2 * r.2 * s.2)) (by rw [eM]; grind) hM0⟩
  have Rr : Rep M r cr := by
    rw [hcr]
    exact rep_T hM0 _
  have Rs : Rep M s cs := by
    rw [hcs]
    exact rep_T hM0 _
  have Rf : Rep M far cf := by
    rw [hcf]
    exact rep_T hM0 _
  have R0 : Rep M ((0 : Int), (1 : Int)) 0 := by
    rw [← Tk_zero hM0]
    exact rep_T hM0 _
  have e_tot : lawSum r s = Tk M (cr + cs) := rep_sum hM0 Rr Rs
  have e_mn : lawMinus r = Tk M (-cr) := rep_minus hM0 Rr
  have Rm : Rep M (lawMinus r) (-cr) := by
    rw [e_mn]
    exact rep_T hM0 _
  have e_les : lawSum s (lawMinus r) = Tk M (cs + -cr) := rep_sum hM0 Rs Rm
  have Rt : Rep M (lawSum r s) (cr + cs) := by
    rw [e_tot]
    exact rep_T hM0 _
  have Rl : Rep M (lawSum s (lawMinus r)) (cs + -cr) := by
    rw [e_les]
    exact rep_T hM0 _
  have ep := place_pl hM hn0 hm0 hw rows
  have eo := place_pl hM hn0 hm0 hw others
  have F1 : FOk (fsOf m w rows) := fsOf_ok hok
  have F2 : FOk (fsOf m w others) := fsOf_ok hok2
  have B1 := place_b hn0 hn hok bmore
  have B2 := place_b hn0 hn hok2 bmore
  rw [ep, eo]
  rw [ep] at B1
  rw [eo] at B2
  have br93 : TOk 93 r := br.mono (by decide)
  have bs93 : TOk 93 s := bs.mono (by decide)
  have tu : ∀ {fs : FP}, FOk fs → PlB 93 (pl M fs) → IsPl (turnedIn (pl M fs) r) ∧ PlB 187 (turnedIn (pl M fs) r) := fun {fs} hf hb => by
    have h1 := PlB_tu hb br93
    rw [turned_pl hM0 Rr] at h1 ⊢
    exact ⟨isPl_pl hM0 (hf.sh _) h1 (by decide), h1⟩
  have mi : ∀ {fs : FP} {t : Turn} {c : Int}, FOk fs → PlB 93 (pl M fs) → TOk 93 t → Rep M t c → IsPl (mirroredIn (pl M fs) t) ∧ PlB 187 (mirroredIn (pl M fs) t) := fun {fs t c} hf hb ht hc => by
    have h1 := PlB_mi hb ht
    rw [mirrored_pl hM0 hc] at h1 ⊢
    exact ⟨isPl_pl hM0 (hf.sh _) h1 (by decide), h1⟩
  have P1 := isPl_pl hM0 F1 B1 (by decide)
  have P2 := isPl_pl hM0 F2 B2 (by decide)
  have T1 := tu F1 B1
  have T2 := tu F2 B2
  have M1 := mi F1 B1 br93 Rr
  have M2 := mi F2 B2 br93 Rr
  have M3 := mi F1 B1 bs93 Rs
  have ok : ∀ {p : Pl} {b : Nat}, IsPl p → PlB b p → b ≤ 1200 → OkPl p := fun h1 h2 h3 => ⟨h1, h2.mono h3⟩
  have idp : ∀ fs : FP, ∀ g : Int → Int, (∀ k, g k = k) → pl M (shF g fs) = pl M fs := fun fs g hg => by
    rw [show g = fun k => k from funext hg, shF_id]
  have shc : ∀ fs : FP, ∀ f g : Int → Int, (∀ k, f k = g k) → pl M (shF f fs) = pl M (shF g fs) := fun fs f g hg => by
    rw [show f = g from funext hg]
  -- the written forms against the dots
  have wid : ∀ rows, writtenIn (pl M (fsOf m w rows)) = Wn M (kz m w rows) := fun rows => by
    have := written_pl M m w (fun k => k) rows
    rw [shF_id] at this
    rw [this]
    congr 1
    funext z
    exact List.map_id' _
  have wt1 : ∀ rows, writtenIn (turnedIn (pl M (fsOf m w rows)) r) = Wn M fun z => (kz m w rows z).map fun k => k + cr := fun rows => by
    rw [turned_pl hM0 Rr]
    exact written_pl M m w _ rows
  have wm1 : ∀ rows, writtenIn (mirroredIn (pl M (fsOf m w rows)) r) = Wn M fun z => (kz m w rows z).map fun k => cr - k := fun rows => by
    rw [mirrored_pl hM0 Rr]
    exact written_pl M m w _ rows
  have fi := fun a b => form_iff (M := M) hmm0 hmm a b
  have fn := fun a => form_nil (M := M) hmm0 hmm a
  have key : ∀ {a b : List Row}, RowsOk n a → RowsOk n b → (dotIn a n = dotIn b n ↔ ∀ z ∈ names6, ∀ x, Kop M (cnt M (kz m w a z)) x = Kop M (cnt M (kz m w b z)) x) := fun {a b} ha hb => by
    rw [dot_iff]
    refine forall_congr' fun z => forall_congr' fun hz => ?_
    rw [keyL_iff hn0 hM hm hu0 w (jz_lt ha z) (jz_lt hb z) (jz_len ha z) (jz_len hb z), kz_jz ha z, kz_jz hb z]
  have hok0 : RowsOk n [] := ⟨Nat.zero_le _, (fun _ h => nomatch h), fun _ => Nat.zero_le 3⟩
  have zeroW : writtenIn (pl M (fsOf m w rows)) = [] ↔ ∀ z ∈ names6, ∀ x, Kop M (cnt M (kz m w rows z)) x = 0 := by
    rw [wid, Wn_nil]
    exact forall_congr' fun z => forall_congr' fun hz => fn _
  have e3 : writtenIn (pl M (fsOf m w rows)) = writtenIn (turnedIn (pl M (fsOf m w rows)) r) ↔ (writtenIn (pl M (fsOf m w rows)) = [] ∨ r = ((0 : Int), (1 : Int))) := by
    rw [zeroW, wid, wt1, Wn_iff]
    constructor
    · intro h
      rcases Classical.em ((M : Int) ∣ cr) with hd | hd
      · right
        rw [hcr, ← Tk_zero hM0]
        exact (Tk_eq_iff hMN).mpr (by rw [Int.sub_zero]; exact hd)
      · left
        intro z hz
        refine not_self_turned hmm0 hmm (kz_len hok z) hd fun x => ?_
        have := (fi _ _).mp (h z hz) x
        rw [Kop_turn] at this
        exact this.symm
    · rintro (h | h) z hz
      · refine (fi _ _).mpr fun x => ?_
        rw [Kop_turn, h z hz, h z hz]
      · refine (fi _ _).mpr fun x => ?_
        rw [Kop_turn]
        rw [hcr, ← Tk_zero hM0, Tk_eq_iff hMN, Int.sub_zero] at h
        obtain ⟨q, hq⟩ := h
        rw [hq]
        exact (((cnt_per M _).op _).mulZ q x).symm
  refine ⟨ok P1 B1 (by decide), ?_, ?_, ?_, ?_, ?_, ?_, ?_, ?_⟩
  · refine ⟨ok P1 B1 (by decide), ⟨ir, br.mono (by decide)⟩, ⟨is, bs.mono (by decide)⟩, ?_, ?_, ?_, ok T1.1 T1.2 (by decide), ok M1.1 M1.2 (by decide), ok M3.1 M3.2 (by decide), ?_, ?_, ?_, ?_, ?_⟩
    · rw [e_tot]
      exact isTurn_T hM0 _
    · rw [e_mn]
      exact isTurn_T hM0 _
    · rw [e_les]
      exact isTurn_T hM0 _
    · rw [turned_pl hM0 Rr, turned_pl hM0 Rs, turned_pl hM0 Rt, shF_shF]
      exact shc _ _ _ fun k => by omega
    · rw [turned_pl hM0 Rr, turned_pl hM0 Rm, shF_shF]
      exact idp _ _ fun k => by omega
    · rw [mirrored_pl hM0 Rr, mirrored_pl hM0 Rr, shF_shF]
      exact idp _ _ fun k => by omega
    · rw [mirrored_pl hM0 Rr, mirrored_pl hM0 Rs, turned_pl hM0 Rl, shF_shF]
      exact shc _ _ _ fun k => by omega
    · rw [turned_pl hM0 Rr, mirrored_pl hM0 Rs, mirrored_pl hM0 Rs, turned_pl hM0 Rm, shF_shF, shF_shF]
      exact shc _ _ _ fun k => by omega
  · rw [turned_pl hM0 Rr, each1_pl hM0 Rr]
  · rw [mirrored_pl hM0 Rr, each2_pl hM0 Rr]
  · rw [turned_pl hM0 R0]
    exact idp _ _ fun k => by omega
  · rw [turned_pl hM0 Rf, each1_pl hM0 Rf]
  · rw [mirrored_pl hM0 Rf, each2_pl hM0 Rf]
  · refine decide_eq_decide.mpr ?_
    rw [zeroW, key hok hok0]
    have e : ∀ z x, Kop M (cnt M (kz m w [] z)) x = 0 := fun z => Op_zero' _ cnt_nil
    exact forall_congr' fun z => forall_congr' fun hz => forall_congr' fun x => by rw [e]
  · refine ⟨ok P1 B1 (by decide), ok P2 B2 (by decide), ⟨ir, br.mono (by decide)⟩, ⟨T1.1, wrOk_of T1.1 T1.2 (by decide)⟩, ⟨T2.1, wrOk_of T2.1 T2.2 (by decide)⟩, ⟨M1.1, wrOk_of M1.1 M1.2 (by decide)⟩, ⟨M2.1, wrOk_of M2.1 M2.2 (by decide)⟩, wrOk_of P1 B1 (by decide), ?_, ?_, ?_⟩
    · refine decide_eq_decide.mpr ?_
      rw [wt1, wt1, Wn_iff, key hok hok2]
      exact forall_congr' fun z => forall_congr' fun hz => (fi _ _).trans (turn_iff M cr _ _)
    · refine decide_eq_decide.mpr ?_
      rw [wm1, wm1, Wn_iff, key hok hok2]
      exact forall_congr' fun z => forall_congr' fun hz => (fi _ _).trans (mirror_iff M cr _ _)
    · rw [← Bool.decide_or]
      exact decide_eq_decide.mpr e3
end K31

set_option Elab.async false
set_option linter.all false
set_option maxRecDepth 100000
set_option maxHeartbeats 0
namespace K31
open PySem PySem.Spec PyProof.Rows L2
/-! ### the head: what the top has written, by names -/
def hd_common_divisor : He.DefD := ⟨("common_divisor", none), "common_divisor", "common_divisor", defArgs s_common_divisor, defBody s_common_divisor, defScope s_common_divisor, [], []⟩
def hd_common_multiple : He.DefD := ⟨("common_multiple", none), "common_multiple", "common_multiple", defArgs s_common_multiple, defBody s_common_multiple, defScope s_common_multiple, [], []⟩
def hd_multiple_of_all : He.DefD := ⟨("multiple_of_all", none), "multiple_of_all", "multiple_of_all", defArgs s_multiple_of_all, defBody s_multiple_of_all, defScope s_multiple_of_all, [], []⟩
def hd_fraction_of : He.DefD := ⟨("fraction_of", none), "fraction_of", "fraction_of", defArgs s_fraction_of, defBody s_fraction_of, defScope s_fraction_of, [], []⟩
def hd_fraction_sum : He.DefD := ⟨("fraction_sum", none), "fraction_sum", "fraction_sum", defArgs s_fraction_sum, defBody s_fraction_sum, defScope s_fraction_sum, [], []⟩
def hd_fraction_difference : He.DefD := ⟨("fraction_difference", none), "fraction_difference", "fraction_difference", defArgs s_fraction_difference, defBody s_fraction_difference, defScope s_fraction_difference, [], []⟩
def hd_turn_left : He.DefD := ⟨("turn_left", none), "turn_left", "turn_left", defArgs s_turn_left, defBody s_turn_left, defScope s_turn_left, [], []⟩
def hd_turn_sum : He.DefD := ⟨("turn_sum", none), "turn_sum", "turn_sum", defArgs s_turn_sum, defBody s_turn_sum, defScope s_turn_sum, [], []⟩
def hd_turn_difference : He.DefD := ⟨("turn_difference", none), "turn_difference", "turn_difference", defArgs s_turn_difference, defBody s_turn_difference, defScope s_turn_difference, [], []⟩
def hd_is_less : He.DefD := ⟨("is_less", none), "is_less", "is_less", defArgs s_is_less, defBody s_is_less, defScope s_is_less, [], []⟩
def hd_in_order : He.DefD := ⟨("in_order", none), "in_order", "in_order", defArgs s_in_order, defBody s_in_order, defScope s_in_order, [], []⟩
def hd_at_bottom : He.DefD := ⟨("at_bottom", none), "at_bottom", "at_bottom", defArgs s_at_bottom, defBody s_at_bottom, defScope s_at_bottom, [], []⟩
def hd_is_integer : He.DefD := ⟨("is_integer", none), "is_integer", "is_integer", defArgs s_is_integer, defBody s_is_integer, defScope s_is_integer, [], []⟩
def hd_is_from : He.DefD := ⟨("is_from", none), "is_from", "is_from", defArgs s_is_from, defBody s_is_from, defScope s_is_from, [], []⟩
def hd_is_ascending : He.DefD := ⟨("is_ascending", none), "is_ascending", "is_ascending", defArgs s_is_ascending, defBody s_is_ascending, defScope s_is_ascending, [], []⟩
def hd_is_name : He.DefD := ⟨("is_name", none), "is_name", "is_name", defArgs s_is_name, defBody s_is_name, defScope s_is_name, [], []⟩
def hd_is_fraction : He.DefD := ⟨("is_fraction", none), "is_fraction", "is_fraction", defArgs s_is_fraction, defBody s_is_fraction, defScope s_is_fraction, [], []⟩
def hd_is_turn : He.DefD := ⟨("is_turn", none), "is_turn", "is_turn", defArgs s_is_turn, defBody s_is_turn, defScope s_is_turn, [], []⟩
def hd_are_turns_in_order : He.DefD := ⟨("are_turns_in_order", none), "are_turns_in_order", "are_turns_in_order", defArgs s_are_turns_in_order, defBody s_are_turns_in_order, defScope s_are_turns_in_order, [], []⟩
def hd_is_place_row : He.DefD := ⟨("is_place_row", none), "is_place_row", "is_place_row", defArgs s_is_place_row, defBody s_is_place_row, defScope s_is_place_row, [], []⟩
def hd_is_place_form : He.DefD := ⟨("is_place_form", none), "is_place_form", "is_place_form", defArgs s_is_place_form, defBody s_is_place_form, defScope s_is_place_form, [], []⟩
def hd_check_turn : He.DefD := ⟨("check_turn", none), "check_turn", "check_turn", defArgs s_check_turn, defBody s_check_turn, defScope s_check_turn, [], []⟩
def hd_check_place : He.DefD := ⟨("check_place", none), "check_place", "check_place", defArgs s_check_place, defBody s_check_place, defScope s_check_place, [], []⟩
def hd_part_in : He.DefD := ⟨("part_in", none), "part_in", "part_in", defArgs s_part_in, defBody s_part_in, defScope s_part_in, [], []⟩
def hd_turn_in : He.DefD := ⟨("turn_in", none), "turn_in", "turn_in", defArgs s_turn_in, defBody s_turn_in, defScope s_turn_in, [], []⟩
def hd_integers_by_turn : He.DefD := ⟨("integers_by_turn", none), "integers_by_turn", "integers_by_turn", defArgs s_integers_by_turn, defBody s_integers_by_turn, defScope s_integers_by_turn, [], []⟩
def hd_rows_by_class : He.DefD := ⟨("rows_by_class", none), "rows_by_class", "rows_by_class", defArgs s_rows_by_class, defBody s_rows_by_class, defScope s_rows_by_class, [], []⟩
def hd_kept_row : He.DefD := ⟨("kept_row", none), "kept_row", "kept_row", defArgs s_kept_row, defBody s_kept_row, defScope s_kept_row, [], []⟩
def hd_form_in : He.DefD := ⟨("form_in", none), "form_in", "form_in", defArgs s_form_in, defBody s_form_in, defScope s_form_in, [], []⟩
def hd_written_in : He.DefD := ⟨("written_in", none), "written_in", "written_in", defArgs s_written_in, defBody s_written_in, defScope s_written_in, [], []⟩
def hd_turned_in : He.DefD := ⟨("turned_in", none), "turned_in", "turned_in", defArgs s_turned_in, defBody s_turned_in, defScope s_turned_in, [], []⟩
def hd_mirrored_in : He.DefD := ⟨("mirrored_in", none), "mirrored_in", "mirrored_in", defArgs s_mirrored_in, defBody s_mirrored_in, defScope s_mirrored_in, [], []⟩
def hd_written : He.DefD := ⟨("written", none), "written", "written", defArgs s_written, defBody s_written, defScope s_written, [], []⟩
def hd_same : He.DefD := ⟨("same", none), "same", "same", defArgs s_same, defBody s_same, defScope s_same, [], []⟩
def hd_turned : He.DefD := ⟨("turned", none), "turned", "turned", defArgs s_turned, defBody s_turned, defScope s_turned, [], []⟩
def hd_mirrored : He.DefD := ⟨("mirrored", none), "mirrored", "mirrored", defArgs s_mirrored, defBody s_mirrored, defScope s_mirrored, [], []⟩
def hd__law_urn : He.DefD := ⟨("_law_urn", none), "_law_urn", "_law_urn", defArgs s__law_urn, defBody s__law_urn, defScope s__law_urn, [], []⟩
def hd__law_pick : He.DefD := ⟨("_law_pick", none), "_law_pick", "_law_pick", defArgs s__law_pick, defBody s__law_pick, defScope s__law_pick, [], []⟩
def hd__law_shuffled : He.DefD := ⟨("_law_shuffled", none), "_law_shuffled", "_law_shuffled", defArgs s__law_shuffled, defBody s__law_shuffled, defScope s__law_shuffled, [], []⟩
def hd__law_common : He.DefD := ⟨("_law_common", none), "_law_common", "_law_common", defArgs s__law_common, defBody s__law_common, defScope s__law_common, [], []⟩
def hd__law_fraction : He.DefD := ⟨("_law_fraction", none), "_law_fraction", "_law_fraction", defArgs s__law_fraction, defBody s__law_fraction, defScope s__law_fraction, [], []⟩
def hd__law_left : He.DefD := ⟨("_law_left", none), "_law_left", "_law_left", defArgs s__law_left, defBody s__law_left, defScope s__law_left, [], []⟩
def hd__law_sum : He.DefD := ⟨("_law_sum", none), "_law_sum", "_law_sum", defArgs s__law_sum, defBody s__law_sum, defScope s__law_sum, [], []⟩
def hd__law_sorted : He.DefD := ⟨("_law_sorted", none), "_law_sorted", "_law_sorted", defArgs s__law_sorted, defBody s__law_sorted, defScope s__law_sorted, [], []⟩
def hd__law_drawn_turn : He.DefD := ⟨("_law_drawn_turn", none), "_law_drawn_turn", "_law_drawn_turn", defArgs s__law_drawn_turn, defBody s__law_drawn_turn, defScope s__law_drawn_turn, [], []⟩
def hd__law_key : He.DefD := ⟨("_law_key", none), "_law_key", "_law_key", defArgs s__law_key, defBody s__law_key, defScope s__law_key, [], []⟩
def hd__law_says : He.DefD := ⟨("_law_says", none), "_law_says", "_law_says", defArgs s__law_says, defBody s__law_says, defScope s__law_says, [], []⟩
def hd__law_spread : He.DefD := ⟨("_law_spread", none), "_law_spread", "_law_spread", defArgs s__law_spread, defBody s__law_spread, defScope s__law_spread, [], []⟩
def hd__law_place : He.DefD := ⟨("_law_place", none), "_law_place", "_law_place", defArgs s__law_place, defBody s__law_place, defScope s__law_place, [], []⟩
def hd__law_dot : He.DefD := ⟨("_law_dot", none), "_law_dot", "_law_dot", defArgs s__law_dot, defBody s__law_dot, defScope s__law_dot, [], []⟩
def hd__law_same_rows : He.DefD := ⟨("_law_same_rows", none), "_law_same_rows", "_law_same_rows", defArgs s__law_same_rows, defBody s__law_same_rows, defScope s__law_same_rows, [], []⟩
def hd__law_minus : He.DefD := ⟨("_law_minus", none), "_law_minus", "_law_minus", defArgs s__law_minus, defBody s__law_minus, defScope s__law_minus, [], []⟩
def hd__law_each : He.DefD := ⟨("_law_each", none), "_law_each", "_law_each", defArgs s__law_each, defBody s__law_each, defScope s__law_each, [], []⟩
def hd__law_group_right : He.DefD := ⟨("_law_group_right", none), "_law_group_right", "_law_group_right", defArgs s__law_group_right, defBody s__law_group_right, defScope s__law_group_right, [], []⟩
def hd__law_dots_right : He.DefD := ⟨("_law_dots_right", none), "_law_dots_right", "_law_dots_right", defArgs s__law_dots_right, defBody s__law_dots_right, defScope s__law_dots_right, [], []⟩
def hd__law_stand_alone : He.DefD := ⟨("_law_stand_alone", none), "_law_stand_alone", "_law_stand_alone", defArgs s__law_stand_alone, defBody s__law_stand_alone, defScope s__law_stand_alone, [], []⟩
def hd__law_right : He.DefD := ⟨("_law_right", none), "_law_right", "_law_right", defArgs s__law_right, defBody s__law_right, defScope s__law_right, [], []⟩
def hd_law : He.DefD := ⟨("law", none), "law", "law", defArgs s_law, defBody s_law, defScope s_law, [], []⟩
def hfn0 : List He.DefD := [hd_common_divisor, hd_common_multiple, hd_multiple_of_all, hd_fraction_of, hd_fraction_sum, hd_fraction_difference, hd_turn_left, hd_turn_sum, hd_turn_difference, hd_is_less, hd_in_order, hd_at_bottom, hd_is_integer, hd_is_from, hd_is_ascending, hd_is_name, hd_is_fraction, hd_is_turn, hd_are_turns_in_order, hd_is_place_row]
def hfn1 : List He.DefD := [hd_is_place_form, hd_check_turn, hd_check_place, hd_part_in, hd_turn_in, hd_integers_by_turn, hd_rows_by_class, hd_kept_row, hd_form_in, hd_written_in, hd_turned_in, hd_mirrored_in, hd_written, hd_same, hd_turned, hd_mirrored, hd__law_urn, hd__law_pick, hd__law_shuffled, hd__law_common]
def hfn2 : List He.DefD := [hd__law_fraction, hd__law_left, hd__law_sum, hd__law_sorted, hd__law_drawn_turn, hd__law_key, hd__law_says, hd__law_spread, hd__law_place, hd__law_dot, hd__law_same_rows, hd__law_minus, hd__law_each, hd__law_group_right, hd__law_dots_right, hd__law_stand_alone, hd__law_right, hd_law]
def hfn : List He.DefD := hfn0 ++ hfn1 ++ hfn2
def hfa0 : List He.Fa := [.glo "common_divisor", .glo "common_multiple", .glo "multiple_of_all", .glo "fraction_of", .glo "fraction_sum", .glo "fraction_difference", .glo "turn_left", .glo "turn_sum", .glo "turn_difference", .glo "is_less", .glo "in_order", .glo "at_bottom", .glo "is_integer", .glo "is_from", .glo "is_ascending", .glo "is_name", .glo "is_fraction", .glo "is_turn", .glo "are_turns_in_order", .glo "is_place_row"]
def hfa1 : List He.Fa := [.glo "is_place_form", .glo "check_turn", .glo "check_place", .glo "part_in", .glo "turn_in", .glo "integers_by_turn", .glo "rows_by_class", .glo "kept_row", .glo "form_in", .glo "written_in", .glo "turned_in", .glo "mirrored_in", .glo "written", .glo "same", .glo "turned", .glo "mirrored", .glo "_law_urn", .glo "_law_pick", .glo "_law_shuffled", .glo "_law_common"]
def hfa2 : List He.Fa := [.glo "_law_fraction", .glo "_law_left", .glo "_law_sum", .glo "_law_sorted", .glo "_law_drawn_turn", .glo "_law_key", .glo "_law_says", .glo "_law_spread", .glo "_law_place", .glo "_law_dot", .glo "_law_same_rows", .glo "_law_minus", .glo "_law_each", .glo "_law_group_right", .glo "_law_dots_right", .glo "_law_stand_alone", .glo "_law_right", .glo "law", .free "abs", .free "len"]
def hfa3 : List He.Fa := [.free "isinstance", .free "all", .free "any", .free "zip", .free "sorted", .free "list", .free "tuple", .free "set", .free "int", .free "range", .free "max", .free "min", .free "bool", .free "str", .int "PARTS" 30, .int "MOST_OF_A_NAME" 3, .str "NAMES" "abcdefghijklmnopqrstuvwxyz", .glo "PRIMES"]
def hfa : List He.Fa := hfa0 ++ hfa1 ++ hfa2 ++ hfa3
def hloose0 : List PySem.Str := ["WheelError", "InvalidTurn", "InvalidPlace", "common_divisor", "common_multiple", "multiple_of_all", "fraction_of", "fraction_sum", "fraction_difference", "turn_left", "turn_sum", "turn_difference", "is_less", "in_order", "at_bottom", "MOST_OF_A_NAME", "NAMES", "is_integer", "is_from", "is_ascending"]
def hloose1 : List PySem.Str := ["is_name", "is_fraction", "is_turn", "are_turns_in_order", "is_place_row", "is_place_form", "check_turn", "check_place", "PARTS", "PRIMES", "part_in", "turn_in", "integers_by_turn", "rows_by_class", "kept_row", "form_in", "written_in", "turned_in", "mirrored_in", "written"]
def hloose2 : List PySem.Str := ["same", "turned", "mirrored", "_law_urn", "_law_pick", "_law_shuffled", "_law_common", "_law_fraction", "_law_left", "_law_sum", "_law_sorted", "_law_drawn_turn", "_law_key", "_law_says", "_law_spread", "_law_place", "_law_dot", "_law_same_rows", "_law_minus", "_law_each"]
def hloose3 : List PySem.Str := ["_law_group_right", "_law_dots_right", "_law_stand_alone", "_law_right"]
def hloose : List PySem.Str := hloose0 ++ hloose1 ++ hloose2 ++ hloose3
def hex (K : PySem.W.Frag) : Bool := He.tupB K "PRIMES" [.int 2, .int 3, .int 5]
abbrev hR : PySem.W.OpenRow := PySem.W.OpenLaw.row PySem.Challenge.rw_drawnbywheels_k31_whole_turned_and_mirro
abbrev hhk : PySem.W.Hook := He.hookX 4 hfa hfn [] [] hex
def hob (s : PySem.W.SharedT) : He.AlX := He.obsX 4 hfa hfn [] [] hex (HandSHeadRun.getT s)
theorem hob_eq (s : PySem.W.SharedT) : hob s = hhk.obs s.abs := He.obsX_eq (HandSHeadRun.getT_eq s)
theorem head_run (w : World) : HandSHeadRun.RunEq hR (PySem.W.view hR.prog [69]) hhk hob 20000 hloose w := by
  intro os
  kernel_rfl
section
variable {w : World} {K : PySem.W.Frag} {h : Heap} {mg : Str → Option Value}
theorem at_common_divisor (X : K.In h) (G : h.Ns mainGlobals mg) (c : He.SaysD hfa hfn K) : At K mg "common_divisor" s_common_divisor := by
  obtain ⟨fd, F⟩ := c.def_ 0 (d := hd_common_divisor) rfl
  exact ⟨⟨_, fd, He.glo_ok X G (c.fact 0 (f := .glo "common_divisor") rfl), F⟩⟩
theorem at_common_multiple (X : K.In h) (G : h.Ns mainGlobals mg) (c : He.SaysD hfa hfn K) : At K mg "common_multiple" s_common_multiple := by
  obtain ⟨fd, F⟩ := c.def_ 1 (d := hd_common_multiple) rfl
  exact ⟨⟨_, fd, He.glo_ok X G (c.fact 1 (f := .glo "common_multiple") rfl), F⟩⟩
theorem at_multiple_of_all (X : K.In h) (G : h.Ns mainGlobals mg) (c : He.SaysD hfa hfn K) : At K mg "multiple_of_all" s_multiple_of_all := by
  obtain ⟨fd, F⟩ := c.def_ 2 (d := hd_multiple_of_all) rfl
  exact ⟨⟨_, fd, He.glo_ok X G (c.fact 2 (f := .glo "multiple_of_all") rfl), F⟩⟩
theorem at_fraction_of (X : K.In h) (G : h.Ns mainGlobals mg) (c : He.SaysD hfa hfn K) : At K mg "fraction_of" s_fraction_of := by
  obtain ⟨fd, F⟩ := c.def_ 3 (d := hd_fraction_of) rfl
  exact ⟨⟨_, fd, He.glo_ok X G (c.fact 3 (f := .glo "fraction_of") rfl), F⟩⟩
theorem at_fraction_sum (X : K.In h) (G : h.Ns mainGlobals mg) (c : He.SaysD hfa hfn K) : At K mg "fraction_sum" s_fraction_sum := by
  obtain ⟨fd, F⟩ := c.def_ 4 (d := hd_fraction_sum) rfl
  exact ⟨⟨_, fd, He.glo_ok X G (c.fact 4 (f := .glo "fraction_sum") rfl), F⟩⟩
theorem at_fraction_difference (X : K.In h) (G : h.Ns mainGlobals mg) (c : He.SaysD hfa hfn K) : At K mg "fraction_difference" s_fraction_difference := by
  obtain ⟨fd, F⟩ := c.def_ 5 (d := hd_fraction_difference) rfl
  exact ⟨⟨_, fd, He.glo_ok X G (c.fact 5 (f := .glo "fraction_difference") rfl), F⟩⟩
theorem at_turn_left (X : K.In h) (G : h.Ns mainGlobals mg) (c : He.SaysD hfa hfn K) : At K mg "turn_left" s_turn_left := by
  obtain ⟨fd, F⟩ := c.def_ 6 (d := hd_turn_left) rfl
  exact ⟨⟨_, fd, He.glo_ok X G (c.fact 6 (f := .glo "turn_left") rfl), F⟩⟩
theorem at_turn_sum (X : K.In h) (G : h.Ns mainGlobals mg) (c : He.SaysD hfa hfn K) : At K mg "turn_sum" s_turn_sum := by
  obtain ⟨fd, F⟩ := c.def_ 7 (d := hd_turn_sum) rfl
  exact ⟨⟨_, fd, He.glo_ok X G (c.fact 7 (f := .glo "turn_sum") rfl), F⟩⟩
theorem at_turn_difference (X : K.In h) (G : h.Ns mainGlobals mg) (c : He.SaysD hfa hfn K) : At K mg "turn_difference" s_turn_difference := by
  obtain ⟨fd, F⟩ := c.def_ 8 (d := hd_turn_difference) rfl
  exact ⟨⟨_, fd, He.glo_ok X G (c.fact 8 (f := .glo "turn_difference") rfl), F⟩⟩
theorem at_is_less (X : K.In h) (G : h.Ns mainGlobals mg) (c : He.SaysD hfa hfn K) : At K mg "is_less" s_is_less := by
  obtain ⟨fd, F⟩ := c.def_ 9 (d := hd_is_less) rfl
  exact ⟨⟨_, fd, He.glo_ok X G (c.fact 9 (f := .glo "is_less") rfl), F⟩⟩
theorem at_in_order (X : K.In h) (G : h.Ns mainGlobals mg) (c : He.SaysD hfa hfn K) : At K mg "in_order" s_in_order := by
  obtain ⟨fd, F⟩ := c.def_ 10 (d := hd_in_order) rfl
  exact ⟨⟨_, fd, He.glo_ok X G (c.fact 10 (f := .glo "in_order") rfl), F⟩⟩
theorem at_at_bottom (X : K.In h) (G : h.Ns mainGlobals mg) (c : He.SaysD hfa hfn K) : At K mg "at_bottom" s_at_bottom := by
  obtain ⟨fd, F⟩ := c.def_ 11 (d := hd_at_bottom) rfl
  exact ⟨⟨_, fd, He.glo_ok X G (c.fact 11 (f := .glo "at_bottom") rfl), F⟩⟩
theorem at_is_integer (X : K.In h) (G : h.Ns mainGlobals mg) (c : He.SaysD hfa hfn K) : At K mg "is_integer" s_is_integer := by
  obtain ⟨fd, F⟩ := c.def_ 12 (d := hd_is_integer) rfl
  exact ⟨⟨_, fd, He.glo_ok X G (c.fact 12 (f := .glo "is_integer") rfl), F⟩⟩
theorem at_is_from (X : K.In h) (G : h.Ns mainGlobals mg) (c : He.SaysD hfa hfn K) : At K mg "is_from" s_is_from := by
  obtain ⟨fd, F⟩ := c.def_ 13 (d := hd_is_from) rfl
  exact ⟨⟨_, fd, He.glo_ok X G (c.fact 13 (f := .glo "is_from") rfl), F⟩⟩
theorem at_is_ascending (X : K.In h) (G : h.Ns mainGlobals mg) (c : He.SaysD hfa hfn K) : At K mg "is_ascending" s_is_ascending := by
  obtain ⟨fd, F⟩ := c.def_ 14 (d := hd_is_ascending) rfl
  exact ⟨⟨_, fd, He.glo_ok X G (c.fact 14 (f := .glo "is_ascending") rfl), F⟩⟩
theorem at_is_name (X : K.In h) (G : h.Ns mainGlobals mg) (c : He.SaysD hfa hfn K) : At K mg "is_name" s_is_name := by
  obtain ⟨fd, F⟩ := c.def_ 15 (d := hd_is_name) rfl
  exact ⟨⟨_, fd, He.glo_ok X G (c.fact 15 (f := .glo "is_name") rfl), F⟩⟩
theorem at_is_fraction (X : K.In h) (G : h.Ns mainGlobals mg) (c : He.SaysD hfa hfn K) : At K mg "is_fraction" s_is_fraction := by
  obtain ⟨fd, F⟩ := c.def_ 16 (d := hd_is_fraction) rfl
  exact ⟨⟨_, fd, He.glo_ok X G (c.fact 16 (f := .glo "is_fraction") rfl), F⟩⟩
theorem at_is_turn (X : K.In h) (G : h.Ns mainGlobals mg) (c : He.SaysD hfa hfn K) : At K mg "is_turn" s_is_turn := by
  obtain ⟨fd, F⟩ := c.def_ 17 (d := hd_is_turn) rfl
  exact ⟨⟨_, fd, He.glo_ok X G (c.fact 17 (f := .glo "is_turn") rfl), F⟩⟩
theorem at_are_turns_in_order (X : K.In h) (G : h.Ns mainGlobals mg) (c : He.SaysD hfa hfn K) : At K mg "are_turns_in_order" s_are_turns_in_order := by
  obtain ⟨fd, F⟩ := c.def_ 18 (d := hd_are_turns_in_order) rfl
  exact ⟨⟨_, fd, He.glo_ok X G (c.fact 18 (f := .glo "are_turns_in_order") rfl), F⟩⟩
theorem at_is_place_row (X : K.In h) (G : h.Ns mainGlobals mg) (c : He.SaysD hfa hfn K) : At K mg "is_place_row" s_is_place_row := by
  obtain ⟨fd, F⟩ := c.def_ 19 (d := hd_is_place_row) rfl
  exact ⟨⟨_, fd, He.glo_ok X G (c.fact 19 (f := .glo "is_place_row") rfl), F⟩⟩
theorem at_is_place_form (X : K.In h) (G : h.Ns mainGlobals mg) (c : He.SaysD hfa hfn K) : At K mg "is_place_form" s_is_place_form := by
  obtain ⟨fd, F⟩ := c.def_ 20 (d := hd_is_place_form) rfl
  exact ⟨⟨_, fd, He.glo_ok X G (c.fact 20 (f := .glo "is_place_form") rfl), F⟩⟩
theorem at_check_turn (X : K.In h) (G : h.Ns mainGlobals mg) (c : He.SaysD hfa hfn K) : At K mg "check_turn" s_check_turn := by
  obtain ⟨fd, F⟩ := c.def_ 21 (d := hd_check_turn) rfl
  exact ⟨⟨_, fd, He.glo_ok X G (c.fact 21 (f := .glo "check_turn") rfl), F⟩⟩
theorem at_check_place (X : K.In h) (G : h.Ns mainGlobals mg) (c : He.SaysD hfa hfn K) : At K mg "check_place" s_check_place := by
  obtain ⟨fd, F⟩ := c.def_ 22 (d := hd_check_place) rfl
  exact ⟨⟨_, fd, He.glo_ok X G (c.fact 22 (f := .glo "check_place") rfl), F⟩⟩
theorem at_part_in (X : K.In h) (G : h.Ns mainGlobals mg) (c : He.SaysD hfa hfn K) : At K mg "part_in" s_part_in := by
  obtain ⟨fd, F⟩ := c.def_ 23 (d := hd_part_in) rfl
  exact ⟨⟨_, fd, He.glo_ok X G (c.fact 23 (f := .glo "part_in") rfl), F⟩⟩
theorem at_turn_in (X : K.In h) (G : h.Ns mainGlobals mg) (c : He.SaysD hfa hfn K) : At K mg "turn_in" s_turn_in := by
  obtain ⟨fd, F⟩ := c.def_ 24 (d := hd_turn_in) rfl
  exact ⟨⟨_, fd, He.glo_ok X G (c.fact 24 (f := .glo "turn_in") rfl), F⟩⟩
theorem at_integers_by_turn (X : K.In h) (G : h.Ns mainGlobals mg) (c : He.SaysD hfa hfn K) : At K mg "integers_by_turn" s_integers_by_turn := by
  obtain ⟨fd, F⟩ := c.def_ 25 (d := hd_integers_by_turn) rfl
  exact ⟨⟨_, fd, He.glo_ok X G (c.fact 25 (f := .glo "integers_by_turn") rfl), F⟩⟩
theorem at_rows_by_class (X : K.In h) (G : h.Ns mainGlobals mg) (c : He.SaysD hfa hfn K) : At K mg "rows_by_class" s_rows_by_class := by
  obtain ⟨fd, F⟩ := c.def_ 26 (d := hd_rows_by_class) rfl
  exact ⟨⟨_, fd, He.glo_ok X G (c.fact 26 (f := .glo "rows_by_class") rfl), F⟩⟩
theorem at_kept_row (X : K.In h) (G : h.Ns mainGlobals mg) (c : He.SaysD hfa hfn K) : At K mg "kept_row" s_kept_row := by
  obtain ⟨fd, F⟩ := c.def_ 27 (d := hd_kept_row) rfl
  exact ⟨⟨_, fd, He.glo_ok X G (c.fact 27 (f := .glo "kept_row") rfl), F⟩⟩
theorem at_form_in (X : K.In h) (G : h.Ns mainGlobals mg) (c : He.SaysD hfa hfn K) : At K mg "form_in" s_form_in := by
  obtain ⟨fd, F⟩ := c.def_ 28 (d := hd_form_in) rfl
  exact ⟨⟨_, fd, He.glo_ok X G (c.fact 28 (f := .glo "form_in") rfl), F⟩⟩
theorem at_written_in (X : K.In h) (G : h.Ns mainGlobals mg) (c : He.SaysD hfa hfn K) : At K mg "written_in" s_written_in := by
  obtain ⟨fd, F⟩ := c.def_ 29 (d := hd_written_in) rfl
  exact ⟨⟨_, fd, He.glo_ok X G (c.fact 29 (f := .glo "written_in") rfl), F⟩⟩
theorem at_turned_in (X : K.In h) (G : h.Ns mainGlobals mg) (c : He.SaysD hfa hfn K) : At K mg "turned_in" s_turned_in := by
  obtain ⟨fd, F⟩ := c.def_ 30 (d := hd_turned_in) rfl
  exact ⟨⟨_, fd, He.glo_ok X G (c.fact 30 (f := .glo "turned_in") rfl), F⟩⟩
theorem at_mirrored_in (X : K.In h) (G : h.Ns mainGlobals mg) (c : He.SaysD hfa hfn K) : At K mg "mirrored_in" s_mirrored_in := by
  obtain ⟨fd, F⟩ := c.def_ 31 (d := hd_mirrored_in) rfl
  exact ⟨⟨_, fd, He.glo_ok X G (c.fact 31 (f := .glo "mirrored_in") rfl), F⟩⟩
theorem at_written (X : K.In h) (G : h.Ns mainGlobals mg) (c : He.SaysD hfa hfn K) : At K mg "written" s_written := by
  obtain ⟨fd, F⟩ := c.def_ 32 (d := hd_written) rfl
  exact ⟨⟨_, fd, He.glo_ok X G (c.fact 32 (f := .glo "written") rfl), F⟩⟩
theorem at_same (X : K.In h) (G : h.Ns mainGlobals mg) (c : He.SaysD hfa hfn K) : At K mg "same" s_same := by
  obtain ⟨fd, F⟩ := c.def_ 33 (d := hd_same) rfl
  exact ⟨⟨_, fd, He.glo_ok X G (c.fact 33 (f := .glo "same") rfl), F⟩⟩
theorem at_turned (X : K.In h) (G : h.Ns mainGlobals mg) (c : He.SaysD hfa hfn K) : At K mg "turned" s_turned := by
  obtain ⟨fd, F⟩ := c.def_ 34 (d := hd_turned) rfl
  exact ⟨⟨_, fd, He.glo_ok X G (c.fact 34 (f := .glo "turned") rfl), F⟩⟩
theorem at_mirrored (X : K.In h) (G : h.Ns mainGlobals mg) (c : He.SaysD hfa hfn K) : At K mg "mirrored" s_mirrored := by
  obtain ⟨fd, F⟩ := c.def_ 35 (d := hd_mirrored) rfl
  exact ⟨⟨_, fd, He.glo_ok X G (c.fact 35 (f := .glo "mirrored") rfl), F⟩⟩
theorem at__law_urn (X : K.In h) (G : h.Ns mainGlobals mg) (c : He.SaysD hfa hfn K) : At K mg "_law_urn" s__law_urn := by
  obtain ⟨fd, F⟩ := c.def_ 36 (d := hd__law_urn) rfl
  exact ⟨⟨_, fd, He.glo_ok X G (c.fact 36 (f := .glo "_law_urn") rfl), F⟩⟩
theorem at__law_pick (X : K.In h) (G : h.Ns mainGlobals mg) (c : He.SaysD hfa hfn K) : At K mg "_law_pick" s__law_pick := by
  obtain ⟨fd, F⟩ := c.def_ 37 (d := hd__law_pick) rfl
  exact ⟨⟨_, fd, He.glo_ok X G (c.fact 37 (f := .glo "_law_pick") rfl), F⟩⟩
theorem at__law_shuffled (X : K.In h) (G : h.Ns mainGlobals mg) (c : He.SaysD hfa hfn K) : At K mg "_law_shuffled" s__law_shuffled := by
  obtain ⟨fd, F⟩ := c.def_ 38 (d := hd__law_shuffled) rfl
  exact ⟨⟨_, fd, He.glo_ok X G (c.fact 38 (f := .glo "_law_shuffled") rfl), F⟩⟩
theorem at__law_common (X : K.In h) (G : h.Ns mainGlobals mg) (c : He.SaysD hfa hfn K) : At K mg "_law_common" s__law_common := by
  obtain ⟨fd, F⟩ := c.def_ 39 (d := hd__law_common) rfl
  exact ⟨⟨_, fd, He.glo_ok X G (c.fact 39 (f := .glo "_law_common") rfl), F⟩⟩
theorem at__law_fraction (X : K.In h) (G : h.Ns mainGlobals mg) (c : He.SaysD hfa hfn K) : At K mg "_law_fraction" s__law_fraction := by
  obtain ⟨fd, F⟩ := c.def_ 40 (d := hd__law_fraction) rfl
  exact ⟨⟨_, fd, He.glo_ok X G (c.fact 40 (f := .glo "_law_fraction") rfl), F⟩⟩
theorem at__law_left (X : K.In h) (G : h.Ns mainGlobals mg) (c : He.SaysD hfa hfn K) : At K mg "_law_left" s__law_left := by
  obtain ⟨fd, F⟩ := c.def_ 41 (d := hd__law_left) rfl
  exact ⟨⟨_, fd, He.glo_ok X G (c.fact 41 (f := .glo "_law_left") rfl), F⟩⟩
theorem at__law_sum (X : K.In h) (G : h.Ns mainGlobals mg) (c : He.SaysD hfa hfn K) : At K mg "_law_sum" s__law_sum := by
  obtain ⟨fd, F⟩ := c.def_ 42 (d := hd__law_sum) rfl
  exact ⟨⟨_, fd, He.glo_ok X G (c.fact 42 (f := .glo "_law_sum") rfl), F⟩⟩
theorem at__law_sorted (X : K.In h) (G : h.Ns mainGlobals mg) (c : He.SaysD hfa hfn K) : At K mg "_law_sorted" s__law_sorted := by
  obtain ⟨fd, F⟩ := c.def_ 43 (d := hd__law_sorted) rfl
  exact ⟨⟨_, fd, He.glo_ok X G (c.fact 43 (f := .glo "_law_sorted") rfl), F⟩⟩
theorem at__law_drawn_turn (X : K.In h) (G : h.Ns mainGlobals mg) (c : He.SaysD hfa hfn K) : At K mg "_law_drawn_turn" s__law_drawn_turn := by
  obtain ⟨fd, F⟩ := c.def_ 44 (d := hd__law_drawn_turn) rfl
  exact ⟨⟨_, fd, He.glo_ok X G (c.fact 44 (f := .glo "_law_drawn_turn") rfl), F⟩⟩
theorem at__law_key (X : K.In h) (G : h.Ns mainGlobals mg) (c : He.SaysD hfa hfn K) : At K mg "_law_key" s__law_key := by
  obtain ⟨fd, F⟩ := c.def_ 45 (d := hd__law_key) rfl
  exact ⟨⟨_, fd, He.glo_ok X G (c.fact 45 (f := .glo "_law_key") rfl), F⟩⟩
theorem at__law_says (X : K.In h) (G : h.Ns mainGlobals mg) (c : He.SaysD hfa hfn K) : At K mg "_law_says" s__law_says := by
  obtain ⟨fd, F⟩ := c.def_ 46 (d := hd__law_says) rfl
  exact ⟨⟨_, fd, He.glo_ok X G (c.fact 46 (f := .glo "_law_says") rfl), F⟩⟩
theorem at__law_spread (X : K.In h) (G : h.Ns mainGlobals mg) (c : He.SaysD hfa hfn K) : At K mg "_law_spread" s__law_spread := by
  obtain ⟨fd, F⟩ := c.def_ 47 (d := hd__law_spread) rfl
  exact ⟨⟨_, fd, He.glo_ok X G (c.fact 47 (f := .glo "_law_spread") rfl), F⟩⟩
theorem at__law_place (X : K.In h) (G : h.Ns mainGlobals mg) (c : He.SaysD hfa hfn K) : At K mg "_law_place" s__law_place := by
  obtain ⟨fd, F⟩ := c.def_ 48 (d := hd__law_place) rfl
  exact ⟨⟨_, fd, He.glo_ok X G (c.fact 48 (f := .glo "_law_place") rfl), F⟩⟩
theorem at__law_dot (X : K.In h) (G : h.Ns mainGlobals mg) (c : He.SaysD hfa hfn K) : At K mg "_law_dot" s__law_dot := by
  obtain ⟨fd, F⟩ := c.def_ 49 (d := hd__law_dot) rfl
  exact ⟨⟨_, fd, He.glo_ok X G (c.fact 49 (f := .glo "_law_dot") rfl), F⟩⟩
theorem at__law_same_rows (X : K.In h) (G : h.Ns mainGlobals mg) (c : He.SaysD hfa hfn K) : At K mg "_law_same_rows" s__law_same_rows := by
  obtain ⟨fd, F⟩ := c.def_ 50 (d := hd__law_same_rows) rfl
  exact ⟨⟨_, fd, He.glo_ok X G (c.fact 50 (f := .glo "_law_same_rows") rfl), F⟩⟩
theorem at__law_minus (X : K.In h) (G : h.Ns mainGlobals mg) (c : He.SaysD hfa hfn K) : At K mg "_law_minus" s__law_minus := by
  obtain ⟨fd, F⟩ := c.def_ 51 (d := hd__law_minus) rfl
  exact ⟨⟨_, fd, He.glo_ok X G (c.fact 51 (f := .glo "_law_minus") rfl), F⟩⟩
theorem at__law_each (X : K.In h) (G : h.Ns mainGlobals mg) (c : He.SaysD hfa hfn K) : At K mg "_law_each" s__law_each := by
  obtain ⟨fd, F⟩ := c.def_ 52 (d := hd__law_each) rfl
  exact ⟨⟨_, fd, He.glo_ok X G (c.fact 52 (f := .glo "_law_each") rfl), F⟩⟩
theorem at__law_group_right (X : K.In h) (G : h.Ns mainGlobals mg) (c : He.SaysD hfa hfn K) : At K mg "_law_group_right" s__law_group_right := by
  obtain ⟨fd, F⟩ := c.def_ 53 (d := hd__law_group_right) rfl
  exact ⟨⟨_, fd, He.glo_ok X G (c.fact 53 (f := .glo "_law_group_right") rfl), F⟩⟩
theorem at__law_dots_right (X : K.In h) (G : h.Ns mainGlobals mg) (c : He.SaysD hfa hfn K) : At K mg "_law_dots_right" s__law_dots_right := by
  obtain ⟨fd, F⟩ := c.def_ 54 (d := hd__law_dots_right) rfl
  exact ⟨⟨_, fd, He.glo_ok X G (c.fact 54 (f := .glo "_law_dots_right") rfl), F⟩⟩
theorem at__law_stand_alone (X : K.In h) (G : h.Ns mainGlobals mg) (c : He.SaysD hfa hfn K) : At K mg "_law_stand_alone" s__law_stand_alone := by
  obtain ⟨fd, F⟩ := c.def_ 55 (d := hd__law_stand_alone) rfl
  exact ⟨⟨_, fd, He.glo_ok X G (c.fact 55 (f := .glo "_law_stand_alone") rfl), F⟩⟩
theorem at__law_right (X : K.In h) (G : h.Ns mainGlobals mg) (c : He.SaysD hfa hfn K) : At K mg "_law_right" s__law_right := by
  obtain ⟨fd, F⟩ := c.def_ 56 (d := hd__law_right) rfl
  exact ⟨⟨_, fd, He.glo_ok X G (c.fact 56 (f := .glo "_law_right") rfl), F⟩⟩
theorem at_law (X : K.In h) (G : h.Ns mainGlobals mg) (c : He.SaysD hfa hfn K) : At K mg "law" s_law := by
  obtain ⟨fd, F⟩ := c.def_ 57 (d := hd_law) rfl
  exact ⟨⟨_, fd, He.glo_ok X G (c.fact 57 (f := .glo "law") rfl), F⟩⟩
theorem txt_of (X : K.In h) (G : h.Ns mainGlobals mg) (c : He.SaysD hfa hfn K) (m : hex K = true) : Txt K mg where
  a_common_divisor := at_common_divisor X G c
  a_common_multiple := at_common_multiple X G c
  a_multiple_of_all := at_multiple_of_all X G c
  a_fraction_of := at_fraction_of X G c
  a_fraction_sum := at_fraction_sum X G c
  a_fraction_difference := at_fraction_difference X G c
  a_turn_left := at_turn_left X G c
  a_turn_sum := at_turn_sum X G c
  a_turn_difference := at_turn_difference X G c
  a_is_less := at_is_less X G c
  a_in_order := at_in_order X G c
  a_at_bottom := at_at_bottom X G c
  a_is_integer := at_is_integer X G c
  a_is_from := at_is_from X G c
  a_is_ascending := at_is_ascending X G c
  a_is_name := at_is_name X G c
  a_is_fraction := at_is_fraction X G c
  a_is_turn := at_is_turn X G c
  a_are_turns_in_order := at_are_turns_in_order X G c
  a_is_place_row := at_is_place_row X G c
  a_is_place_form := at_is_place_form X G c
  a_check_turn := at_check_turn X G c
  a_check_place := at_check_place X G c
  a_part_in := at_part_in X G c
  a_turn_in := at_turn_in X G c
  a_integers_by_turn := at_integers_by_turn X G c
  a_rows_by_class := at_rows_by_class X G c
  a_kept_row := at_kept_row X G c
  a_form_in := at_form_in X G c
  a_written_in := at_written_in X G c
  a_turned_in := at_turned_in X G c
  a_mirrored_in := at_mirrored_in X G c
  a_written := at_written X G c
  a_same := at_same X G c
  a_turned := at_turned X G c
  a_mirrored := at_mirrored X G c
  a__law_urn := at__law_urn X G c
  a__law_pick := at__law_pick X G c
  a__law_shuffled := at__law_shuffled X G c
  a__law_common := at__law_common X G c
  a__law_fraction := at__law_fraction X G c
  a__law_left := at__law_left X G c
  a__law_sum := at__law_sum X G c
  a__law_sorted := at__law_sorted X G c
  a__law_drawn_turn := at__law_drawn_turn X G c
  a__law_key := at__law_key X G c
  a__law_says := at__law_says X G c
  a__law_spread := at__law_spread X G c
  a__law_place := at__law_place X G c
  a__law_dot := at__law_dot X G c
  a__law_same_rows := at__law_same_rows X G c
  a__law_minus := at__law_minus X G c
  a__law_each := at__law_each X G c
  a__law_group_right := at__law_group_right X G c
  a__law_dots_right := at__law_dots_right X G c
  a__law_stand_alone := at__law_stand_alone X G c
  a__law_right := at__law_right X G c
  a_law := at_law X G c
  z_abs := He.free_ok X G (c.fact 58 (f := .free "abs") rfl)
  z_len := He.free_ok X G (c.fact 59 (f := .free "len") rfl)
  z_isinstance := He.free_ok X G (c.fact 60 (f := .free "isinstance") rfl)
  z_all := He.free_ok X G (c.fact 61 (f := .free "all") rfl)
  z_any := He.free_ok X G (c.fact 62 (f := .free "any") rfl)
  z_zip := He.free_ok X G (c.fact 63 (f := .free "zip") rfl)
  z_sorted := He.free_ok X G (c.fact 64 (f := .free "sorted") rfl)
  z_list := He.free_ok X G (c.fact 65 (f := .free "list") rfl)
  z_tuple := He.free_ok X G (c.fact 66 (f := .free "tuple") rfl)
  z_set := He.free_ok X G (c.fact 67 (f := .free "set") rfl)
  z_int := He.free_ok X G (c.fact 68 (f := .free "int") rfl)
  z_range := He.free_ok X G (c.fact 69 (f := .free "range") rfl)
  z_max := He.free_ok X G (c.fact 70 (f := .free "max") rfl)
  z_min := He.free_ok X G (c.fact 71 (f := .free "min") rfl)
  z_bool := He.free_ok X G (c.fact 72 (f := .free "bool") rfl)
  z_str := He.free_ok X G (c.fact 73 (f := .free "str") rfl)
  mPARTS := He.int_ok X G (c.fact 74 (f := .int "PARTS" 30) rfl)
  mMOST := He.int_ok X G (c.fact 75 (f := .int "MOST_OF_A_NAME" 3) rfl)
  mNAMES := He.str_ok X G (c.fact 76 (f := .str "NAMES" "abcdefghijklmnopqrstuvwxyz") rfl)
  mPRIMES := ⟨_, He.glo_ok X G (c.fact 77 (f := .glo "PRIMES") rfl), fun H => He.tupB_ok m H⟩
end
end K31
open PySem PySem.W PySem.Calls PyProof.Rows
theorem PySem.Challenge.cw_drawnbywheels_k31_whole_turned_and_mirro_holds : PySem.Challenge.rw_drawnbywheels_k31_whole_turned_and_mirro.Holds := by
  w_on; o_law
  refine HandSHeadRun.head_any (r := OpenLaw.row PySem.Challenge.rw_drawnbywheels_k31_whole_turned_and_mirro) (q := view (OpenLaw.row PySem.Challenge.rw_drawnbywheels_k31_whole_turned_and_mirro).prog [69]) (H := K31.hhk) (ob := K31.hob) (M := 20000) (loose := K31.hloose) (d := HandSHeadRun.topDef (OpenLaw.row PySem.Challenge.rw_drawnbywheels_k31_whole_turned_and_mirro).prog 69) (kwd := []) K31.hob_eq
    (by kernel_rfl) (fun s => by kernel_rfl) K31.head_run (by kernel_rfl) (by kernel_rfl) (by kernel_rfl) (by rfl) (by first | assumption | decide +kernel) (by decide +kernel) ⟨rfl, rfl, rfl, rfl, rfl, by decide +kernel⟩ ?hw ?hc
  case hw => w_witness2
  case hc =>
    refine L2.walk_ofE (l := PySem.Challenge.rw_drawnbywheels_k31_whole_turned_and_mirro) (n := 63) (k := 12) (x := "_law_script") (CX := L2.CX0) rfl (by decide) (by kernel_rfl) ⟨rfl, by decide, by decide⟩ ?F (fun _ _ _ _ z => z)
    intro w mg fa h Y G hmg0
    obtain ⟨K, KX, c⟩ := Y
    have hmg : mg ("law" : PySem.Str) = some (.ref fa) := by
      have e : (HandSHeadRun.topDef (OpenLaw.row PySem.Challenge.rw_drawnbywheels_k31_whole_turned_and_mirro).prog 69).name = ("law" : PySem.Str) := by kernel_rfl
      rw [← e]
      exact hmg0
    have TT := K31.txt_of KX G c.t.d c.more
    obtain ⟨fd, F⟩ := c.t.d.def_ 57 (d := K31.hd_law) rfl
    have e := hmg.symm.trans (He.glo_ok KX G (c.t.d.fact 57 (f := .glo "law") rfl))
    cases e
    have b := L2.FunD.bindsA (ps := ["_law_script"]) F fun _ _ _ _ _ _ us hl => match us, hl with | [_], _ => rfl
    exact ⟨K, fd, K31.sp_law K, KX, fun s v => b s [v] rfl, fun H a ns hl _ hS => ⟨a, ns, rfl, hS, hl, fun _ => rfl⟩, fun base _ _ => K31.fn_law TT K31.right_all F⟩

